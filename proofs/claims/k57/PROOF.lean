import PyProof.Rows.All
import Wide.All
import OpenK.AllK
import Wide.FinOn
import HandS.ForMost
import HandS.TupMul
import HandS.TupAny
import HandS.Style
import HandS.IsInst
import HandS.Zip
import HandS.Conv
import HandS.More
import HandS.Flow
import HandS.Exc
import HandS.ExcOwn
import HandS.TryOnly
import HandS.Lambda
import HandS.HeadHook3
import KE.KRevSl
import HandS.SortInts
import HandS.Property
import KE.KOpsOwn
import HandS.Records
import HandS.DictComp
import HandS.ExcIs
import HandS.EndTab
import HandS.NestedK
import KE.KMinKey
import HandS.SortKw
import HandS.Deep
import KE.GoesEnum
import HandS.SetFor
import HandS.TupSets
import PySem.Challenge.RW_allstitches_k57_whole_spread

section
set_option Elab.async false
set_option linter.all false
set_option autoImplicit false
set_option maxRecDepth 100000
/-! A data layer over the hand layer: values as plain data, environments as lists of slots, each def as a plain function. -/
namespace DL
open PySem PySem.Spec L2

/-- a value with all that hangs on it -/
inductive D where
  | non | bl (b : Bool) | int (i : Int) | str (x : Str)
  | tup (xs : List D) | lst (xs : List D)
  | dic (ks : List Key) (vs : List D)
  | dit (ks : List (List Key)) (vs : List D)
  | obj (c : Nat) (ks : List Str) (vs : List D)
  | drw | scr

/-- the classes' addresses, the script -/
structure Wd where
  cl : Nat → Addr
  ns : List Int
  tb : List (Addr × Str)

mutual
inductive Den (K : PySem.W.Frag) (W : Wd) (dr : Option Addr) (F : Hp) : V → D → Prop
  | non : Den K W dr F .non .non
  | bl (b : Bool) : Den K W dr F (.bl b) (.bl b)
  | int (i : Int) : Den K W dr F (.int i) (.int i)
  | str (x : Str) : Den K W dr F (.str x) (.str x)
  | tup {a : Addr} {vs : List V} {ds : List D} : SqT K F a vs → Dens K W dr F vs ds → Den K W dr F (.ref a) (.tup ds)
  | lst {a : Addr} {vs : List V} {ds : List D} : F a = some (.lst vs) → Dens K W dr F vs ds → Den K W dr F (.ref a) (.lst ds)
  | scr {a : Addr} : SqL K F a (W.ns.map V.int) → Den K W dr F (.ref a) .scr
  | dic {a : Addr} {ks : List Key} {vs : List V} {ds : List D} : ks.length = vs.length → Rd F a (.dK (ks.zip vs)) → Dens K W dr F vs ds → Den K W dr F (.ref a) (.dic ks ds)
  | dit {a : Addr} {ks : List (List Key)} {vs : List V} {ds : List D} : ks.length = vs.length → Rd F a (.dT (ks.zip vs)) → Dens K W dr F vs ds → Den K W dr F (.ref a) (.dit ks ds)
  | obj {a dx : Addr} {c : Nat} {ks : List Str} {vs : List V} {ds : List D} : ks.length = vs.length → F a = some (.ins (W.cl c) dx (ks.zip vs)) → Dens K W dr F vs ds → Den K W dr F (.ref a) (.obj c ks ds)
  | drw {a : Addr} : dr = some a → Den K W dr F (.ref a) .drw
inductive Dens (K : PySem.W.Frag) (W : Wd) (dr : Option Addr) (F : Hp) : List V → List D → Prop
  | nil : Dens K W dr F [] []
  | cons {v : V} {vs : List V} {d : D} {ds : List D} : Den K W dr F v d → Dens K W dr F vs ds → Dens K W dr F (v :: vs) (d :: ds)
end

/-- F is part of H -/
def Sub (F H : Hp) : Prop := ∀ a o, F a = some o → H a = some o
theorem Sub.refl (F : Hp) : Sub F F := fun _ _ h => h
theorem Sub.trans {F G H : Hp} (a : Sub F G) (b : Sub G H) : Sub F H := fun x o h => b x o (a x o h)
theorem Sub.rd {F G : Hp} (s : Sub F G) {a : Addr} {u : HO} (h : Rd F a u) : Rd G a u := by
  rcases h with h | ⟨o, h⟩
  · exact .inl (s _ _ h)
  · exact .inr ⟨o, s _ _ h⟩
theorem Sub.sqL {K : PySem.W.Frag} {F G : Hp} (s : Sub F G) {a : Addr} {xs : List V} (h : SqL K F a xs) : SqL K G a xs := h.imp s.rd id
theorem Sub.sqT {K : PySem.W.Frag} {F G : Hp} (s : Sub F G) {a : Addr} {xs : List V} (h : SqT K F a xs) : SqT K G a xs := h.imp s.rd id
theorem Sub.new {F H : Hp} (s : Sub F H) {p : Addr} {o : HO} (hp : H p = none) : Sub F (upd F p o) := fun a u h => by
  have hF : F p = none := by
    cases e : F p with
    | none => rfl
    | some z => rw [s _ _ e] at hp; cases hp
  rw [upd_ne (ne_of_none h hF)]
  exact h

section
variable {K : PySem.W.Frag} {W : Wd} {dr dr' : Option Addr} {F G : Hp}
mutual
theorem Den.mono (s : Sub F G) (e : ∀ a, dr = some a → dr' = some a) : ∀ {v : V} {d : D}, Den K W dr F v d → Den K W dr' G v d
  | _, _, .non => .non
  | _, _, .bl b => .bl b
  | _, _, .int i => .int i
  | _, _, .str x => .str x
  | _, _, .tup h r => .tup (s.sqT h) (Dens.mono s e r)
  | _, _, .lst h r => .lst (s _ _ h) (Dens.mono s e r)
  | _, _, .scr h => .scr (s.sqL h)
  | _, _, .dic l h r => .dic l (s.rd h) (Dens.mono s e r)
  | _, _, .dit l h r => .dit l (s.rd h) (Dens.mono s e r)
  | _, _, .obj l h r => .obj l (s _ _ h) (Dens.mono s e r)
  | _, _, .drw h => .drw (e _ h)
theorem Dens.mono (s : Sub F G) (e : ∀ a, dr = some a → dr' = some a) : ∀ {vs : List V} {ds : List D}, Dens K W dr F vs ds → Dens K W dr' G vs ds
  | _, _, .nil => .nil
  | _, _, .cons h r => .cons (Den.mono s e h) (Dens.mono s e r)
end
theorem Dens.length : ∀ {vs : List V} {ds : List D}, Dens K W dr F vs ds → vs.length = ds.length
  | _, _, .nil => rfl
  | _, _, .cons _ r => by simp [Dens.length r]
theorem Dens.get : ∀ {vs : List V} {ds : List D} {i : Nat} {d : D}, Dens K W dr F vs ds → ds[i]? = some d → ∃ v, vs[i]? = some v ∧ Den K W dr F v d
  | _, _, _, _, .nil, e => by simp at e
  | _, _, 0, _, .cons h _, e => by simp at e; subst e; exact ⟨_, rfl, h⟩
  | _, _, i + 1, _, .cons _ r, e => by
    obtain ⟨v, h1, h2⟩ := Dens.get (i := i) r (by simpa using e)
    exact ⟨v, by simpa using h1, h2⟩
theorem Dens.get' : ∀ {vs : List V} {ds : List D} {i : Nat} {v : V}, Dens K W dr F vs ds → vs[i]? = some v → ∃ d, ds[i]? = some d ∧ Den K W dr F v d
  | _, _, _, _, .nil, e => by simp at e
  | _, _, 0, _, .cons h _, e => by simp at e; subst e; exact ⟨_, rfl, h⟩
  | _, _, i + 1, _, .cons _ r, e => by
    obtain ⟨v, h1, h2⟩ := Dens.get' (i := i) r (by simpa using e)
    exact ⟨v, by simpa using h1, h2⟩
theorem Dens.append : ∀ {vs us : List V} {ds es : List D}, Dens K W dr F vs ds → Dens K W dr F us es → Dens K W dr F (vs ++ us) (ds ++ es)
  | _, _, _, _, .nil, s => s
  | _, _, _, _, .cons h r, s => .cons h (Dens.append r s)
theorem Dens.take : ∀ {vs : List V} {ds : List D} (n : Nat), Dens K W dr F vs ds → Dens K W dr F (vs.take n) (ds.take n)
  | _, _, 0, _ => .nil
  | _, _, _ + 1, .nil => .nil
  | _, _, n + 1, .cons h r => .cons h (Dens.take n r)
theorem Dens.drop : ∀ {vs : List V} {ds : List D} (n : Nat), Dens K W dr F vs ds → Dens K W dr F (vs.drop n) (ds.drop n)
  | _, _, 0, r => r
  | _, _, _ + 1, .nil => .nil
  | _, _, n + 1, .cons _ r => Dens.drop n r
theorem Dens.rep {vs : List V} {ds : List D} (h : Dens K W dr F vs ds) : ∀ k : Nat, Dens K W dr F (List.replicate k vs).flatten (List.replicate k ds).flatten
  | 0 => .nil
  | k + 1 => by
    rw [List.replicate_succ, List.replicate_succ, List.flatten_cons, List.flatten_cons]
    exact h.append (Dens.rep h k)
theorem Dens.reverse {vs : List V} {ds : List D} (h : Dens K W dr F vs ds) : Dens K W dr F vs.reverse ds.reverse := by
  induction vs generalizing ds with
  | nil => cases h; exact .nil
  | cons v vs ih =>
    cases h with
    | cons h r =>
      rw [List.reverse_cons, List.reverse_cons]
      exact (ih r).append (.cons h .nil)
theorem Dens.set : ∀ {vs : List V} {ds : List D} {v : V} {d : D} (i : Nat), Dens K W dr F vs ds → Den K W dr F v d → Dens K W dr F (vs.set i v) (ds.set i d)
  | _, _, _, _, _, .nil, _ => .nil
  | _, _, _, _, 0, .cons _ r, h => .cons h r
  | _, _, _, _, i + 1, .cons q r, h => .cons q (Dens.set i r h)
end

/-! ### computations -/
/-- what is raised: its class, its fields -/
structure Xc where
  c : Nat
  ks : List Str
  vs : List D
abbrev M (α : Type) := Int → Option (Except Xc α × Int)
def M.pure {α : Type} (a : α) : M α := fun n => some (.ok a, n)
def M.bind {α β : Type} (a : M α) (k : α → M β) : M β := fun n => match a n with
  | none => none
  | some (.ok x, n1) => k x n1
  | some (.error e, n1) => some (.error e, n1)
def M.opt {α : Type} (o : Option α) : M α := fun n => match o with
  | none => none
  | some a => some (.ok a, n)
def M.map {α β : Type} (f : α → β) (a : M α) : M β := M.bind a fun x => M.pure (f x)
theorem M.bind_ok {α β : Type} {a : M α} {k : α → M β} {n n2 : Int} {y : β} (h : M.bind a k n = some (.ok y, n2)) : ∃ x n1, a n = some (.ok x, n1) ∧ k x n1 = some (.ok y, n2) := by
  unfold M.bind at h
  split at h
  · cases h
  · exact ⟨_, _, ‹_›, h⟩
  · cases h
theorem M.opt_ok {α : Type} {o : Option α} {n n1 : Int} {x : α} (h : M.opt o n = some (.ok x, n1)) : o = some x ∧ n1 = n := by
  unfold M.opt at h
  split at h
  · cases h
  · cases h; exact ⟨rfl, rfl⟩
theorem M.pure_ok {α : Type} {a : α} {n n1 : Int} {x : α} (h : M.pure a n = some (.ok x, n1)) : a = x ∧ n1 = n := by
  unfold M.pure at h; cases h; exact ⟨rfl, rfl⟩
theorem M.bind_pure {α β : Type} (a : α) (k : α → M β) : M.bind (M.pure a) k = k a := rfl
theorem M.bind_of {α β : Type} {a : M α} {k : α → M β} {n n1 : Int} {x : α} (h : a n = some (.ok x, n1)) : M.bind a k n = k x n1 := by
  unfold M.bind; rw [h]

inductive Sl where
  | no | val (d : D) | own (d : D)
abbrev Env := List Sl
inductive Out where
  | nx (ρ : Env) | bk (ρ : Env) | ct (ρ : Env) | ret (d : D)
abbrev EX := Env → M D
abbrev EXs := Env → M (List D)
abbrev TX := Env → M Bool
abbrev SX := Env → M Out

/-! ### what a state means -/
/-- a def's run: the draw's cell, the script's address, the heap and the known part at the entry, what may be changed besides -/
structure Fr where
  dr : Option Addr
  sa : Addr
  H0 : Hp
  F0 : Hp
  ex : Addr → Prop

/-- what may be changed, at a -/
def MDen (K : PySem.W.Frag) (W : Wd) (dr : Option Addr) (F H : Hp) (a : Addr) : D → Prop
  | .lst ds => ∃ vs, H a = some (.lst vs) ∧ Dens K W dr F vs ds
  | .dic ks ds => ∃ vs, ks.length = vs.length ∧ H a = some (.dK (ks.zip vs)) ∧ Dens K W dr F vs ds
  | .dit ks ds => ∃ vs, ks.length = vs.length ∧ H a = some (.dT (ks.zip vs)) ∧ Dens K W dr F vs ds
  | .obj c ks ds => ∃ dx vs, ks.length = vs.length ∧ H a = some (.ins (W.cl c) dx (ks.zip vs)) ∧ Dens K W dr F vs ds
  | _ => False
theorem MDen.mono {K : PySem.W.Frag} {W : Wd} {dr : Option Addr} {F F' H H' : Hp} {a : Addr} {d : D} (s : Sub F F') (h : ∀ o, H a = some o → H' a = some o) (m : MDen K W dr F H a d) : MDen K W dr F' H' a d := by
  cases d with
  | lst ds => obtain ⟨vs, e, r⟩ := m; exact ⟨vs, h _ e, r.mono s fun _ z => z⟩
  | dic ks ds => obtain ⟨vs, l, e, r⟩ := m; exact ⟨vs, l, h _ e, r.mono s fun _ z => z⟩
  | dit ks ds => obtain ⟨vs, l, e, r⟩ := m; exact ⟨vs, l, h _ e, r.mono s fun _ z => z⟩
  | obj c ks ds => obtain ⟨dx, vs, l, e, r⟩ := m; exact ⟨dx, vs, l, h _ e, r.mono s fun _ z => z⟩
  | non => exact m.elim
  | bl _ => exact m.elim
  | int _ => exact m.elim
  | str _ => exact m.elim
  | tup _ => exact m.elim
  | drw => exact m.elim
  | scr => exact m.elim
theorem MDen.there {K : PySem.W.Frag} {W : Wd} {dr : Option Addr} {F H : Hp} {a : Addr} {d : D} (m : MDen K W dr F H a d) : ∃ o, H a = some o := by
  cases d with
  | lst ds => obtain ⟨vs, e, r⟩ := m; exact ⟨_, e⟩
  | dic ks ds => obtain ⟨vs, l, e, r⟩ := m; exact ⟨_, e⟩
  | dit ks ds => obtain ⟨vs, l, e, r⟩ := m; exact ⟨_, e⟩
  | obj c ks ds => obtain ⟨dx, vs, l, e, r⟩ := m; exact ⟨_, e⟩
  | non => exact m.elim
  | bl _ => exact m.elim
  | int _ => exact m.elim
  | str _ => exact m.elim
  | tup _ => exact m.elim
  | drw => exact m.elim
  | scr => exact m.elim

/-- no code object's table; a table or something else that stands aside -/
def NT (o : HO) : Prop := ∀ ps, o ≠ .tbl ps
def Sd (o : HO) : Prop := (∃ ps, o = .tbl ps) ∨ ∃ φ, o = .ext φ
def mask (H : Hp) : Hp := fun a => match H a with
  | some (.tbl _) => none
  | o => o
theorem mask_of {H : Hp} {a : Addr} {o : HO} (h : H a = some o) (n : NT o := by (intro _ z; cases z)) : mask H a = some o := by
  unfold mask
  rw [h]
  cases o <;> first | rfl | exact absurd rfl (n _)
theorem of_mask {H : Hp} {a : Addr} {o : HO} (h : mask H a = some o) : H a = some o ∧ NT o := by
  unfold mask at h
  split at h
  · cases h
  · rename_i x
    refine ⟨h, fun ps e => ?_⟩
    subst e
    exact x ps h
theorem sd_no {H : Hp} {p : Addr} (h : H p = none) : ∀ u, H p = some u → ¬ Sd u := fun u z => by rw [h] at z; cases z
theorem sd_of {H : Hp} {p : Addr} {o : HO} (h : H p = some o) (n : ¬ Sd o := by (rintro (⟨_, z⟩ | ⟨_, z⟩) <;> cases z)) : ∀ u, H p = some u → ¬ Sd u := fun u z => by rw [h] at z; cases z; exact n
theorem tabs_keep {T : List (Addr × Str)} {H H' : Hp} (t : LamX.Tabs T H) (k : ∀ a o, H a = some o → Sd o → H' a = some o) : LamX.Tabs T H' := fun p hp => by
  obtain ⟨ps, h1, h2, h3⟩ := t p hp
  refine ⟨ps, k _ _ h1 (.inl ⟨_, rfl⟩), h2, fun pos cv e => ?_⟩
  obtain ⟨c, e1, e2⟩ := h3 pos cv e
  exact ⟨c, e1, k _ _ e2 (.inr ⟨_, rfl⟩)⟩
theorem MDen.pl {K : PySem.W.Frag} {W : Wd} {dr : Option Addr} {F H : Hp} {a : Addr} {d : D} (m : MDen K W dr F H a d) {o : HO} (h : H a = some o) : NT o ∧ ¬ Sd o := by
  have go : ∀ u : HO, H a = some u → NT u → (∀ φ, u ≠ .ext φ) → NT o ∧ ¬ Sd o := fun u e n x => by
    rw [h] at e
    cases e
    exact ⟨n, fun z => by
      rcases z with ⟨ps, z⟩ | ⟨φ, z⟩
      · exact n _ z
      · exact x _ z⟩
  cases d with
  | lst ds => obtain ⟨vs, e, r⟩ := m; exact go _ e (fun _ z => by cases z) fun _ z => by cases z
  | dic ks ds => obtain ⟨vs, l, e, r⟩ := m; exact go _ e (fun _ z => by cases z) fun _ z => by cases z
  | dit ks ds => obtain ⟨vs, l, e, r⟩ := m; exact go _ e (fun _ z => by cases z) fun _ z => by cases z
  | obj c ks ds => obtain ⟨dx, vs, l, e, r⟩ := m; exact go _ e (fun _ z => by cases z) fun _ z => by cases z
  | non => exact m.elim
  | bl _ => exact m.elim
  | int _ => exact m.elim
  | str _ => exact m.elim
  | tup _ => exact m.elim
  | drw => exact m.elim
  | scr => exact m.elim
structure Core (K : PySem.W.Frag) (W : Wd) (fr : Fr) (F H : Hp) (n : Int) : Prop where
  sub : Sub F H
  base : ∀ a o, fr.H0 a = some o → fr.dr ≠ some a → ¬ fr.ex a → H a = some o
  f0 : Sub fr.F0 F
  new : ∀ a o, fr.H0 a = some o → fr.F0 a = none → F a = none
  there : ∀ a o, fr.H0 a = some o → ∃ o', H a = some o' ∧ NT o'
  draw : ∀ a, fr.dr = some a → F a = none ∧ H a = some (.lst [.ref fr.sa, .int n]) ∧ SqL K F fr.sa (W.ns.map V.int)
  ntF : ∀ a o, F a = some o → NT o
  tabs : LamX.Tabs W.tb H

/-- an instance -/
def isO : D → Bool | .obj _ _ _ => true | _ => false
structure Slots (K : PySem.W.Frag) (W : Wd) (fr : Fr) (F H : Hp) (σ : St) (ρ : Env) (ad : Nat → Addr) : Prop where
  len : σ.length = ρ.length
  val : ∀ (i : Nat) (d : D), ρ[i]? = some (Sl.val d) → ∃ v, σ[i]? = some (some v) ∧ Den K W fr.dr F v d
  own : ∀ (i : Nat) (d : D), ρ[i]? = some (Sl.own d) → σ[i]? = some (some (.ref (ad i))) ∧ F (ad i) = none ∧ fr.dr ≠ some (ad i) ∧ (fr.H0 (ad i) = none ∨ fr.ex (ad i)) ∧ MDen K W fr.dr F H (ad i) d ∧ ((isO d = true ∧ fr.ex (ad i)) ∨ (isO d = false ∧ fr.H0 (ad i) = none))
  inj : ∀ (i j : Nat) (d e : D), ρ[i]? = some (Sl.own d) → ρ[j]? = some (Sl.own e) → ad i = ad j → i = j

structure Rel (K : PySem.W.Frag) (W : Wd) (fr : Fr) (F H : Hp) (σ : St) (ρ : Env) (n : Int) : Prop where
  core : Core K W fr F H n
  slots : ∃ ad, Slots K W fr F H σ ρ ad

section
variable {K : PySem.W.Frag} {W : Wd} {fr : Fr} {F F' H H' : Hp} {σ σ' : St} {ρ ρ' : Env} {n n' : Int}
theorem Core.noF (c : Core K W fr F H n) {p : Addr} (hp : H p = none) : F p = none := by
  cases e : F p with
  | none => rfl
  | some z => rw [c.sub _ _ e] at hp; cases hp
theorem Core.ndr (c : Core K W fr F H n) {p : Addr} (hp : H p = none) : fr.dr ≠ some p := fun e => by
  rw [(c.draw p e).2.1] at hp; cases hp
theorem Core.noH0 (c : Core K W fr F H n) {p : Addr} (hp : H p = none) : fr.H0 p = none := by
  cases e : fr.H0 p with
  | none => rfl
  | some z => obtain ⟨o, h, _⟩ := c.there _ _ e; rw [h] at hp; cases hp
/-- a new object, known from now on (k) or not -/
theorem Core.fresh (c : Core K W fr F H n) {p : Addr} {o : HO} (hp : H p = none) (ho : NT o := by (intro _ h; cases h)) : Core K W fr (upd F p o) (upd H p o) n where
  sub := fun a u h => by
    by_cases e : a = p
    · subst e; rw [upd_same] at h ⊢; exact h
    · rw [upd_ne e] at h ⊢; exact c.sub _ _ h
  base := fun a u h1 h2 h3 => by
    have h := c.base a u h1 h2 h3
    rw [upd_ne (ne_of_none h hp)]; exact h
  f0 := c.f0.trans (c.sub.new hp)
  new := fun a u h1 h2 => by
    have e : a ≠ p := ne_of_none h1 (c.noH0 hp)
    rw [upd_ne e]; exact c.new a u h1 h2
  there := fun a u h => by
    obtain ⟨o', q, nt⟩ := c.there a u h
    exact ⟨o', by rw [upd_ne (ne_of_none q hp)]; exact q, nt⟩
  draw := fun a e => by
    obtain ⟨h1, h2, h3⟩ := c.draw a e
    have q : a ≠ p := ne_of_none h2 hp
    exact ⟨by rw [upd_ne q]; exact h1, by rw [upd_ne q]; exact h2, (c.sub.new hp).sqL h3⟩
  ntF := fun a u h => by
    by_cases e : a = p
    · subst e; rw [upd_same] at h; cases h; exact ho
    · rw [upd_ne e] at h; exact c.ntF a u h
  tabs := tabs_keep c.tabs fun a u h _ => by rw [upd_ne (ne_of_none h hp)]; exact h
/-- a new object, not known -/
theorem Core.fresh' (c : Core K W fr F H n) {p : Addr} {o : HO} (hp : H p = none) : Core K W fr F (upd H p o) n where
  sub := fun a u h => by
    have q := c.sub _ _ h
    rw [upd_ne (ne_of_none q hp)]; exact q
  base := fun a u h1 h2 h3 => by
    have h := c.base a u h1 h2 h3
    rw [upd_ne (ne_of_none h hp)]; exact h
  f0 := c.f0
  new := c.new
  there := fun a u h => by
    obtain ⟨o', q, nt⟩ := c.there a u h
    exact ⟨o', by rw [upd_ne (ne_of_none q hp)]; exact q, nt⟩
  draw := fun a e => by
    obtain ⟨h1, h2, h3⟩ := c.draw a e
    have q : a ≠ p := ne_of_none h2 hp
    exact ⟨h1, by rw [upd_ne q]; exact h2, h3⟩
  ntF := c.ntF
  tabs := tabs_keep c.tabs fun a u h _ => by rw [upd_ne (ne_of_none h hp)]; exact h
/-- the run that begins where another one stands -/
def Fr.at (fr : Fr) (F H : Hp) : Fr := ⟨fr.dr, fr.sa, mask H, F, fun _ => False⟩
theorem Core.at (c : Core K W fr F H n) : Core K W (fr.at F H) F H n := ⟨c.sub, fun _ _ h _ _ => (of_mask h).1, Sub.refl _, fun _ _ _ h => h, fun _ o h => ⟨o, of_mask h⟩, c.draw, c.ntF, c.tabs⟩
theorem Core.back (c : Core K W fr F H n) (d : Core K W (fr.at F H) F' H' n') : Core K W fr F' H' n' where
  sub := d.sub
  base := fun a o h1 h2 h3 => by
    have h := c.base a o h1 h2 h3
    obtain ⟨o', q, nt⟩ := c.there a o h1
    rw [h] at q; cases q
    exact d.base a o (mask_of h nt) h2 fun z => z
  f0 := c.f0.trans d.f0
  new := fun a o h1 h2 => by
    obtain ⟨o', q, nt⟩ := c.there a o h1
    exact d.new a o' (mask_of q nt) (c.new a o h1 h2)
  there := fun a o h => by
    obtain ⟨o', q, nt⟩ := c.there a o h
    exact d.there a o' (mask_of q nt)
  draw := d.draw
  ntF := d.ntF
  tabs := d.tabs
/-- the slots stand while what they lean on stands -/
theorem Slots.keep {ad : Nat → Addr} (s : Slots K W fr F H σ ρ ad) (c : Core K W fr F H n) (f : Sub F F') (h : ∀ a o, H a = some o → NT o → fr.dr ≠ some a → H' a = some o) (g : ∀ a o, H a = some o → NT o → F a = none → F' a = none) : Slots K W fr F' H' σ ρ ad where
  len := s.len
  val := fun i d e => by
    obtain ⟨v, h1, h2⟩ := s.val i d e
    exact ⟨v, h1, h2.mono f fun _ z => z⟩
  own := fun i d e => by
    obtain ⟨h1, h2, h3, h4, h5, h6⟩ := s.own i d e
    obtain ⟨o, q⟩ := h5.there
    exact ⟨h1, g _ _ q (h5.pl q).1 h2, h3, h4, h5.mono f fun o z => h _ o z (h5.pl z).1 h3, h6⟩
  inj := s.inj
theorem Rel.keep (r : Rel K W fr F H σ ρ n) (c : Core K W fr F' H' n') (f : Sub F F') (h : ∀ a o, H a = some o → NT o → fr.dr ≠ some a → H' a = some o) (g : ∀ a o, H a = some o → NT o → F a = none → F' a = none) : Rel K W fr F' H' σ ρ n' := by
  obtain ⟨ad, s⟩ := r.slots
  exact ⟨c, ad, s.keep r.core f h g⟩
theorem Rel.fresh (r : Rel K W fr F H σ ρ n) {p : Addr} {o : HO} (hp : H p = none) (ho : NT o := by (intro _ h; cases h)) : Rel K W fr (upd F p o) (upd H p o) σ ρ n :=
  r.keep (r.core.fresh hp ho) (r.core.sub.new hp) (fun a u h _ _ => by rw [upd_ne (ne_of_none h hp)]; exact h) fun a u h _ z => by rw [upd_ne (ne_of_none h hp)]; exact z
/-- behind a run that began here -/
theorem Rel.back (r : Rel K W fr F H σ ρ n) (d : Core K W (fr.at F H) F' H' n') : Rel K W fr F' H' σ ρ n' :=
  r.keep (r.core.back d) d.f0 (fun a o h nt z => d.base a o (mask_of h nt) z fun q => q) fun a o h nt z => d.new a o (mask_of h nt) z
end

/-! ### the judgements -/
theorem M.bind_err {α β : Type} {a : M α} {k : α → M β} {n n2 : Int} {z : Xc} (h : M.bind a k n = some (.error z, n2)) : a n = some (.error z, n2) ∨ ∃ x n1, a n = some (.ok x, n1) ∧ k x n1 = some (.error z, n2) := by
  unfold M.bind at h
  split at h
  · cases h
  · exact .inr ⟨_, _, ‹_›, h⟩
  · cases h; exact .inl ‹_›
theorem M.opt_err {α : Type} {o : Option α} {n n1 : Int} {z : Xc} (h : M.opt o n = some (.error z, n1)) : False := by
  unfold M.opt at h
  split at h <;> cases h
theorem M.pure_err {α : Type} {a : α} {n n1 : Int} {z : Xc} (h : M.pure a n = some (.error z, n1)) : False := by
  unfold M.pure at h; cases h
theorem M.bind_any {α β : Type} {a : M α} {k : α → M β} {n n2 : Int} {r : Except Xc β} (h : M.bind a k n = some (r, n2)) : (∃ z, a n = some (.error z, n2) ∧ r = .error z) ∨ ∃ x n1, a n = some (.ok x, n1) ∧ k x n1 = some (r, n2) := by
  unfold M.bind at h
  split at h
  · cases h
  · exact .inr ⟨_, _, ‹_›, h⟩
  · cases h; exact .inl ⟨_, ‹_›, rfl⟩
theorem M.pure_any {α : Type} {a : α} {n n1 : Int} {r : Except Xc α} (h : M.pure a n = some (r, n1)) : Except.ok a = r ∧ n1 = n := by
  unfold M.pure at h; cases h; exact ⟨rfl, rfl⟩
theorem M.opt_any {α : Type} {o : Option α} {n n1 : Int} {r : Except Xc α} (h : M.opt o n = some (r, n1)) : ∃ x, o = some x := by
  unfold M.opt at h
  split at h
  · cases h
  · exact ⟨_, rfl⟩
/-- what must not raise -/
def M.calm {α : Type} (a : M α) : M α := fun n => match a n with
  | some (.ok x, n1) => some (.ok x, n1)
  | _ => none
theorem M.calm_ok {α : Type} {a : M α} {n n1 : Int} {x : α} (h : M.calm a n = some (.ok x, n1)) : a n = some (.ok x, n1) := by
  unfold M.calm at h
  split at h
  · cases h; assumption
  · cases h
theorem M.calm_err {α : Type} {a : M α} {n n1 : Int} {z : Xc} (h : M.calm a n = some (.error z, n1)) : False := by
  unfold M.calm at h
  split at h <;> cases h
/-- an exception in the air that X takes -/
def Acc (X : Cx) (cls : Value) (d : Option Addr) (σ : St) (H : Hp) : Prop := Takes X fun c d' σ' H' => c = cls ∧ d' = d ∧ σ' = σ ∧ H' = H
theorem takesAcc {X : Cx} : Takes X (Acc X) := fun u s' ⟨a, B, sI, pins, σ, H, cls, d, e, I, nb, up, sky, na, os, ag, w⟩ =>
  w u s' ⟨a, B, sI, pins, σ, H, cls, d, e, I, nb, up, sky, na, os, ag, rfl, rfl, rfl, rfl⟩
theorem Acc.of {X : Cx} {Wt : WX} (tk : Takes X Wt) {cls : Value} {d : Option Addr} {σ : St} {H : Hp} (h : Wt cls d σ H) : Acc X cls d σ H := tk.imp fun c d' σ' H' ⟨a, b, c', d''⟩ => by
  subst a b c' d''; exact h
/-- an exception by its class and its fields -/
def XDen (K : PySem.W.Frag) (W : Wd) (dr : Option Addr) (F H : Hp) (z : Xc) (cls : Value) (d : Option Addr) : Prop :=
  cls = .ref (W.cl z.c) ∧ ((d = none ∧ z.ks = [] ∧ z.vs = []) ∨ ∃ a us, d = some a ∧ z.ks ≠ [] ∧ H a = some (.xd (z.ks.zip us)) ∧ z.ks.length = us.length ∧ Dens K W dr F us z.vs)
@[reducible] def Res {α : Type} (ok : α → Prop) (er : Xc → Prop) : Except Xc α → Prop
  | .ok x => ok x
  | .error z => er z
/-- what is wanted of an exception out of an expression; out of a statement -/
def KX (X : Cx) (W : Wd) (fr : Fr) (F : Hp) (σ : St) (ρ : Env) (n : Int) (z : Xc) : Prop := ∀ F' H' cls d, Rel X.K W fr F' H' σ ρ n → Sub F F' → XDen X.K W fr.dr F' H' z cls d → Acc X cls d σ H'
def KS (X : Cx) (W : Wd) (fr : Fr) (F : Hp) (n : Int) (z : Xc) : Prop := ∀ F' H' σ' cls d, Core X.K W fr F' H' n → Sub F F' → XDen X.K W fr.dr F' H' z cls d → Acc X cls d σ' H'
theorem KX.mono {X : Cx} {W : Wd} {fr : Fr} {F F1 : Hp} {σ : St} {ρ : Env} {n : Int} {z : Xc} (k : KX X W fr F σ ρ n z) (s : Sub F F1) : KX X W fr F1 σ ρ n z := fun F' H' cls d R s' x => k F' H' cls d R (s.trans s') x
theorem KS.mono {X : Cx} {W : Wd} {fr : Fr} {F F1 : Hp} {n : Int} {z : Xc} (k : KS X W fr F n z) (s : Sub F F1) : KS X W fr F1 n z := fun F' H' σ cls d R s' x => k F' H' σ cls d R (s.trans s') x
theorem KS.x {X : Cx} {W : Wd} {fr : Fr} {F : Hp} {σ : St} {ρ : Env} {n : Int} {z : Xc} (k : KS X W fr F n z) : KX X W fr F σ ρ n z := fun F' H' cls d R s' x => k F' H' σ cls d R.core s' x
def tD (X : Cx) (W : Wd) (f : EX) : TE := fun σ H Q => ∃ fr F ρ n r n', Rel X.K W fr F H σ ρ n ∧ f ρ n = some (r, n') ∧
  Res (fun d => ∀ F' H' v, Rel X.K W fr F' H' σ ρ n' → Sub F F' → Den X.K W fr.dr F' v d → Q v H') (KX X W fr F σ ρ n') r
def tDs (X : Cx) (W : Wd) (f : EXs) : TA := fun σ H Q => ∃ fr F ρ n r n', Rel X.K W fr F H σ ρ n ∧ f ρ n = some (r, n') ∧
  Res (fun ds => ∀ F' H' vs, Rel X.K W fr F' H' σ ρ n' → Sub F F' → Dens X.K W fr.dr F' vs ds → Q vs H') (KX X W fr F σ ρ n') r
def tT (X : Cx) (W : Wd) (f : TX) : TT := fun σ H Q => ∃ fr F ρ n r n', Rel X.K W fr F H σ ρ n ∧ f ρ n = some (r, n') ∧
  Res (fun b => ∀ F' H', Rel X.K W fr F' H' σ ρ n' → Sub F F' → Q b H') (KX X W fr F σ ρ n') r
def OutK (K : PySem.W.Frag) (W : Wd) (fr : Fr) (F : Hp) (E : Ends) : Out → Int → Prop
  | .nx ρ, n => ∀ F' H' σ', Rel K W fr F' H' σ' ρ n → Sub F F' → E.nx σ' H'
  | .bk ρ, n => ∀ F' H' σ', Rel K W fr F' H' σ' ρ n → Sub F F' → E.bk σ' H'
  | .ct ρ, n => ∀ F' H' σ', Rel K W fr F' H' σ' ρ n → Sub F F' → E.ct σ' H'
  | .ret d, n => ∀ F' H' v, Core K W fr F' H' n → Sub F F' → Den K W fr.dr F' v d → E.rt v H'
def tS (X : Cx) (W : Wd) (g : SX) : TS := fun E σ H => ∃ fr F ρ n r n', Rel X.K W fr F H σ ρ n ∧ g ρ n = some (r, n') ∧ Res (fun o => OutK X.K W fr F E o n') (KS X W fr F n') r
theorem OutK.mono {K : PySem.W.Frag} {W : Wd} {fr : Fr} {F F1 : Hp} {E : Ends} (s : Sub F F1) : ∀ {o : Out} {n : Int}, OutK K W fr F E o n → OutK K W fr F1 E o n
  | .nx _, _, k => fun F' H' σ' r q => k F' H' σ' r (s.trans q)
  | .bk _, _, k => fun F' H' σ' r q => k F' H' σ' r (s.trans q)
  | .ct _, _, k => fun F' H' σ' r q => k F' H' σ' r (s.trans q)
  | .ret _, _, k => fun F' H' v c q => k F' H' v c (s.trans q)
/-- a statement's ends, from further on -/
theorem resS_mono {X : Cx} {W : Wd} {fr : Fr} {F F1 : Hp} {E : Ends} {n : Int} (s : Sub F F1) : ∀ {r : Except Xc Out}, Res (fun o => OutK X.K W fr F E o n) (KS X W fr F n) r → Res (fun o => OutK X.K W fr F1 E o n) (KS X W fr F1 n) r
  | .ok _, k => OutK.mono s k
  | .error _, k => KS.mono k s

abbrev PD (X : Cx) (W : Wd) (e : Expr) (f : EX) : Prop := PE X e (tD X W f)
abbrev PDs (X : Cx) (W : Wd) (es : List Expr) (f : EXs) : Prop := PA X es (tDs X W f)
abbrev PDT (X : Cx) (W : Wd) (e : Expr) (f : TX) : Prop := PT X e (tT X W f)
abbrev PDW (X : Cx) (W : Wd) (e : Expr) (f : TX) : Prop := PW X e (tT X W f)
abbrev PDS (X : Cx) (W : Wd) (s : Stmt) (g : SX) : Prop := PS X s (tS X W g)
abbrev PDSs (X : Cx) (W : Wd) (s : List Stmt) (g : SX) : Prop := PSs X s (tS X W g)
section
variable {X : Cx} {W : Wd} {fr : Fr} {F H : Hp} {σ : St} {ρ : Env} {n n' : Int} {z : Xc} {β : Type}
/-- an error of a part, or of what follows it -/
theorem Rel.dE {f : EX} {g : D → M β} {Q : VK} (R : Rel X.K W fr F H σ ρ n) (e : M.bind (f ρ) g n = some (.error z, n')) (k : KX X W fr F σ ρ n' z) (go : ∀ x n1 F1 H1 v, f ρ n = some (.ok x, n1) → g x n1 = some (.error z, n') → Rel X.K W fr F1 H1 σ ρ n1 → Sub F F1 → Den X.K W fr.dr F1 v x → Q v H1) : tD X W f σ H Q := by
  rcases M.bind_err e with e1 | ⟨x, n1, e1, h⟩
  · exact ⟨fr, F, ρ, n, .error z, n', R, e1, k⟩
  · exact ⟨fr, F, ρ, n, .ok x, n1, R, e1, fun F1 H1 v R1 s1 d1 => go x n1 F1 H1 v e1 h R1 s1 d1⟩
theorem Rel.dsE {f : EXs} {g : List D → M β} {Q : List V → Hp → Prop} (R : Rel X.K W fr F H σ ρ n) (e : M.bind (f ρ) g n = some (.error z, n')) (k : KX X W fr F σ ρ n' z) (go : ∀ x n1 F1 H1 v, f ρ n = some (.ok x, n1) → g x n1 = some (.error z, n') → Rel X.K W fr F1 H1 σ ρ n1 → Sub F F1 → Dens X.K W fr.dr F1 v x → Q v H1) : tDs X W f σ H Q := by
  rcases M.bind_err e with e1 | ⟨x, n1, e1, h⟩
  · exact ⟨fr, F, ρ, n, .error z, n', R, e1, k⟩
  · exact ⟨fr, F, ρ, n, .ok x, n1, R, e1, fun F1 H1 v R1 s1 d1 => go x n1 F1 H1 v e1 h R1 s1 d1⟩
theorem Rel.tE {f : TX} {g : Bool → M β} {Q : Bool → Hp → Prop} (R : Rel X.K W fr F H σ ρ n) (e : M.bind (f ρ) g n = some (.error z, n')) (k : KX X W fr F σ ρ n' z) (go : ∀ x n1 F1 H1, f ρ n = some (.ok x, n1) → g x n1 = some (.error z, n') → Rel X.K W fr F1 H1 σ ρ n1 → Sub F F1 → Q x H1) : tT X W f σ H Q := by
  rcases M.bind_err e with e1 | ⟨x, n1, e1, h⟩
  · exact ⟨fr, F, ρ, n, .error z, n', R, e1, k⟩
  · exact ⟨fr, F, ρ, n, .ok x, n1, R, e1, fun F1 H1 R1 s1 => go x n1 F1 H1 e1 h R1 s1⟩
theorem Rel.sE {f : SX} {g : Out → M β} {E : Ends} (R : Rel X.K W fr F H σ ρ n) (e : M.bind (f ρ) g n = some (.error z, n')) (k : KS X W fr F n' z) (go : ∀ x n1, f ρ n = some (.ok x, n1) → g x n1 = some (.error z, n') → OutK X.K W fr F E x n1) : tS X W f E σ H := by
  rcases M.bind_err e with e1 | ⟨x, n1, e1, h⟩
  · exact ⟨fr, F, ρ, n, .error z, n', R, e1, k⟩
  · exact ⟨fr, F, ρ, n, .ok x, n1, R, e1, go x n1 e1 h⟩
/-- one part, then an operator -/
theorem Rel.dE1 {α : Type} {f : EX} {g : D → Option α} {Q : VK} (R : Rel X.K W fr F H σ ρ n) (e : M.bind (f ρ) (fun x => M.opt (g x)) n = some (.error z, n')) (k : KX X W fr F σ ρ n' z) : tD X W f σ H Q := R.dE e k fun _ _ _ _ _ _ h _ _ _ => (M.opt_err h).elim
theorem Rel.dsE1 {α : Type} {f : EXs} {g : List D → Option α} {Q : List V → Hp → Prop} (R : Rel X.K W fr F H σ ρ n) (e : M.bind (f ρ) (fun x => M.opt (g x)) n = some (.error z, n')) (k : KX X W fr F σ ρ n' z) : tDs X W f σ H Q := R.dsE e k fun _ _ _ _ _ _ h _ _ _ => (M.opt_err h).elim
end
theorem imp_E {X : Cx} {e : Expr} {t t' : TE} (h : PE X e t) (k : ∀ σ H Q, t' σ H Q → t σ H Q) : PE X e t' := ⟨fun pins s σ H Q I q => h.run pins s σ H Q I (k σ H Q q)⟩
theorem imp_T {X : Cx} {e : Expr} {t t' : TT} (h : PT X e t) (k : ∀ σ H Q, t' σ H Q → t σ H Q) : PT X e t' := ⟨fun pins s σ H Q I q => h.run pins s σ H Q I (k σ H Q q)⟩
theorem imp_W {X : Cx} {e : Expr} {t t' : TT} (h : PW X e t) (k : ∀ σ H Q, t' σ H Q → t σ H Q) : PW X e t' := ⟨fun w pins s σ H Q I q => h.run w pins s σ H Q I (k σ H Q q)⟩
theorem imp_A {X : Cx} {e : List Expr} {t t' : TA} (h : PA X e t) (k : ∀ σ H Q, t' σ H Q → t σ H Q) : PA X e t' := ⟨fun p pins s σ H Q I q => h.run p pins s σ H Q I (k σ H Q q)⟩
theorem imp_S {X : Cx} {e : Stmt} {t t' : TS} (h : PS X e t) (k : ∀ E σ H, t' E σ H → t E σ H) : PS X e t' := ⟨fun pins s σ H E I q => h.run pins s σ H E I (k E σ H q)⟩
theorem imp_Ss {X : Cx} {e : List Stmt} {t t' : TS} (h : PSs X e t) (k : ∀ E σ H, t' E σ H → t E σ H) : PSs X e t' := ⟨fun pins s σ H E I q => h.run pins s σ H E I (k E σ H q)⟩
end DL
end

section
set_option Elab.async false
set_option linter.all false
set_option autoImplicit false
set_option maxRecDepth 100000
namespace DL
open PySem PySem.Spec L2
section
variable {X : Cx} {W : Wd}

/-! ### names, constants -/
def eVar (i : Nat) : EX := fun ρ => M.opt (match ρ[i]? with | some (Sl.val d) => some d | _ => none)
theorem eVar_some {i : Nat} {ρ : Env} {n n1 : Int} {d : D} (h : eVar i ρ n = some (.ok d, n1)) : ρ[i]? = some (.val d) ∧ n1 = n := by
  unfold eVar at h
  obtain ⟨h1, h2⟩ := M.opt_ok h
  split at h1
  · cases h1; exact ⟨‹_›, h2⟩
  · cases h1
theorem d_var {e : Expr} {i : Nat} (h : PE X e (tVar i)) : PD X W e (eVar i) := imp_E h fun σ H Q ⟨fr, F, ρ, n, r, n', R, e, k⟩ => by
  rcases r with z | d
  · exact (M.opt_err e).elim
  obtain ⟨h1, h2⟩ := eVar_some e
  subst h2
  obtain ⟨ad, s⟩ := R.slots
  obtain ⟨v, h3, h4⟩ := s.val i d h1
  exact ⟨v, h3, k F H v R (Sub.refl _) h4⟩
theorem dv (i : Nat) {x : Str} {pos : Pos} (hN : X.N[i]? = some x := by rfl) (hv : Vis X.env.scope x := by first | exact Or.inl rfl | exact Or.inr (Or.inl rfl) | exact Or.inr (Or.inr rfl)) (hd : (x == ("__debug__" : Str)) = false := by decide)
    (hcd : (x == ("__classdict__" : Str)) = false := by decide) : PD X W (.Name x pos) (eVar i) := d_var (pe_var hN hv hd hcd)
def eC (d : D) : EX := fun _ => M.pure d
theorem d_con {e : Expr} {v : V} {d : D} (h : PE X e (tC v)) (hd : ∀ K W dr F, Den K W dr F v d) : PD X W e (eC d) := imp_E h fun σ H Q ⟨fr, F, ρ, n, r, n', R, e, k⟩ => by
  rcases r with z | d'
  · exact (M.pure_err e).elim
  obtain ⟨h1, h2⟩ := M.pure_ok e
  subst h1 h2
  exact k F H v R (Sub.refl _) (hd _ _ _ _)
theorem d_int {i j pos} : PD X W (.Constant (.int i) j pos) (eC (.int i)) := d_con pe_int fun _ _ _ _ => .int i
theorem d_bl {i j pos} : PD X W (.Constant (.bool i) j pos) (eC (.bl i)) := d_con pe_bl fun _ _ _ _ => .bl i
theorem d_non {j pos} : PD X W (.Constant .none j pos) (eC .non) := d_con pe_non fun _ _ _ _ => .non
theorem d_str {x j pos} : PD X W (.Constant (.str x) j pos) (eC (.str x)) := d_con pe_str fun _ _ _ _ => .str x
/-- a module's constant that is an int, a text, a bool -/
theorem d_glob {x : Str} {v : V} {u : Value} {pos : Pos} {d : D} (hg : Gl X x) (hm : X.mg x = some u) (r : RelV v u) (hd : ∀ K W dr F, Den K W dr F v d) (hx : (x == ("__debug__" : Str)) = false := by decide) : PD X W (.Name x pos) (eC d) := d_con (pe_glob hg hm r hx) hd

/-! ### lists of expressions -/
def eNil : EXs := fun _ => M.pure []
def eCons (f : EX) (g : EXs) : EXs := fun ρ => M.bind (f ρ) fun d => M.bind (g ρ) fun ds => M.pure (d :: ds)
theorem ds_nil : PDs X W [] eNil := imp_A pa_nil fun σ H Q ⟨fr, F, ρ, n, r, n', R, e, k⟩ => by
  rcases r with z | d
  · exact (M.pure_err e).elim
  obtain ⟨h1, h2⟩ := M.pure_ok e
  subst h1 h2
  exact k F H [] R (Sub.refl _) .nil
theorem ds_cons {e : Expr} {es : List Expr} {f : EX} {g : EXs} (he : PD X W e f) (hr : PDs X W es g) (hs : starEach (e :: es) X.env = (false, eval e X.env) :: starEach es X.env := by rfl) : PDs X W (e :: es) (eCons f g) :=
  imp_A (pa_cons he hr hs) fun σ H Q ⟨fr, F, ρ, n, r, n', R, e, k⟩ => by
    rcases r with z | ds
    · exact R.dE e k fun d n1 F1 H1 v e1 h R1 s1 d1 => R1.dsE h (k.mono s1) fun _ _ _ _ _ _ h _ _ _ => (M.pure_err h).elim
    obtain ⟨d, n1, h1, h⟩ := M.bind_ok e
    obtain ⟨ds', n2, h2, h⟩ := M.bind_ok h
    obtain ⟨h3, h4⟩ := M.pure_ok h
    subst h3 h4
    exact ⟨fr, F, ρ, n, .ok d, n1, R, h1, fun F1 H1 v R1 s1 d1 => ⟨fr, F1, ρ, n1, .ok ds', _, R1, h2, fun F2 H2 vs R2 s2 d2 => k F2 H2 _ R2 (s1.trans s2) (.cons (d1.mono s2 fun _ z => z) d2)⟩⟩

/-! ### displays -/
theorem Core.freshTup {K : PySem.W.Frag} {fr : Fr} {F H : Hp} {n : Int} {vs : List V} {ds : List D} {p : Addr} (h : Dens K W fr.dr F vs ds) (hp : F p = none) : Den K W fr.dr (upd F p (.tup vs)) (.ref p) (.tup ds) :=
  .tup (SqT.of upd_same) (h.mono (fun a u q => by rw [upd_ne (ne_of_none q hp)]; exact q) fun _ z => z)
def gz (ds : List D) : Bool := decide (ds.length ≤ sizeLine)
def mkTup (ds : List D) : Option D := if gz ds then some (.tup ds) else none
def mkLst (ds : List D) : Option D := if gz ds then some (.lst ds) else none
theorem mkTup_ok {ds : List D} {d : D} (h : mkTup ds = some d) : d = .tup ds ∧ ds.length ≤ sizeLine := by
  unfold mkTup at h
  split at h
  · rename_i q; cases h; exact ⟨rfl, of_decide_eq_true q⟩
  · cases h
theorem mkLst_ok {ds : List D} {d : D} (h : mkLst ds = some d) : d = .lst ds ∧ ds.length ≤ sizeLine := by
  unfold mkLst at h
  split at h
  · rename_i q; cases h; exact ⟨rfl, of_decide_eq_true q⟩
  · cases h
def eTup (f : EXs) : EX := fun ρ => M.bind (f ρ) fun ds => M.opt (mkTup ds)
def eLst (f : EXs) : EX := fun ρ => M.bind (f ρ) fun ds => M.opt (mkLst ds)
/-- a new tuple, a new list, handed on as known -/
theorem put_tup {K : PySem.W.Frag} {fr : Fr} {F H : Hp} {σ : St} {ρ : Env} {n : Int} {vs : List V} {ds : List D} {Q : VK} (R : Rel K W fr F H σ ρ n) (hd : Dens K W fr.dr F vs ds)
    (k : ∀ F' H' v, Rel K W fr F' H' σ ρ n → Sub F F' → Den K W fr.dr F' v (.tup ds) → Q v H') : ∀ p, H p = none → Q (.ref p) (upd H p (.tup vs)) := fun p hp =>
  k _ _ _ (R.fresh hp) (R.core.sub.new hp) (.tup (SqT.of upd_same) (hd.mono (R.core.sub.new hp) fun _ z => z))
theorem put_lst {K : PySem.W.Frag} {fr : Fr} {F H : Hp} {σ : St} {ρ : Env} {n : Int} {vs : List V} {ds : List D} {Q : VK} (R : Rel K W fr F H σ ρ n) (hd : Dens K W fr.dr F vs ds)
    (k : ∀ F' H' v, Rel K W fr F' H' σ ρ n → Sub F F' → Den K W fr.dr F' v (.lst ds) → Q v H') : ∀ p, H p = none → Q (.ref p) (upd H p (.lst vs)) := fun p hp =>
  k _ _ _ (R.fresh hp) (R.core.sub.new hp) (.lst upd_same (hd.mono (R.core.sub.new hp) fun _ z => z))
theorem d_tup {es : List Expr} {f : EXs} {x1 pos} (h : PDs X W es f) : PD X W (.Tuple es x1 pos) (eTup f) := imp_E (pe_tup h) fun σ H Q ⟨fr, F, ρ, n, r, n', R, e, k⟩ => by
  rcases r with z | d
  · exact R.dsE1 e k
  obtain ⟨ds, n1, h1, h⟩ := M.bind_ok e
  obtain ⟨h2, h3⟩ := M.opt_ok h
  obtain ⟨h4, h5⟩ := mkTup_ok h2
  subst h3 h4
  exact ⟨fr, F, ρ, n, .ok ds, _, R, h1, fun F1 H1 vs R1 s1 d1 => ⟨by rw [d1.length]; exact h5, put_tup R1 d1 fun F2 H2 v R2 s2 d2 => k F2 H2 v R2 (s1.trans s2) d2⟩⟩
theorem d_lst {es : List Expr} {f : EXs} {pos} (h : PDs X W es f) : PD X W (.List es pos) (eLst f) := imp_E (pe_lst h) fun σ H Q ⟨fr, F, ρ, n, r, n', R, e, k⟩ => by
  rcases r with z | d
  · exact R.dsE1 e k
  obtain ⟨ds, n1, h1, h⟩ := M.bind_ok e
  obtain ⟨h2, h3⟩ := M.opt_ok h
  obtain ⟨h4, h5⟩ := mkLst_ok h2
  subst h3 h4
  exact ⟨fr, F, ρ, n, .ok ds, _, R, h1, fun F1 H1 vs R1 s1 d1 => ⟨by rw [d1.length]; exact h5, put_lst R1 d1 fun F2 H2 v R2 s2 d2 => k F2 H2 v R2 (s1.trans s2) d2⟩⟩

/-! ### operators -/
def e2 (op : D → D → Option D) (fa fb : EX) : EX := fun ρ => M.bind (fa ρ) fun x => M.bind (fb ρ) fun y => M.opt (op x y)
/-- an operator over data -/
def Op2 (K : PySem.W.Frag) (W : Wd) (r : R2) (op : D → D → Option D) : Prop := ∀ (fr : Fr) (F H : Hp) (σ : St) (ρ : Env) (n : Int) (x y d : D) (v u : V) (Q : VK), Rel K W fr F H σ ρ n → Den K W fr.dr F v x → Den K W fr.dr F u y → op x y = some d →
  (∀ F' H' w, Rel K W fr F' H' σ ρ n → Sub F F' → Den K W fr.dr F' w d → Q w H') → r v u H Q
theorem d_tOp {r : R2} {op : D → D → Option D} {fa fb : EX} (hd : Op2 X.K W r op) {σ : St} {H : Hp} {Q : VK} (h : tD X W (e2 op fa fb) σ H Q) : tOp r (tD X W fa) (tD X W fb) σ H Q := by
  obtain ⟨fr, F, ρ, n, r, n', R, e, k⟩ := h
  rcases r with z | d
  · exact R.dE e k fun x n1 F1 H1 v e1 h R1 s1 d1 => R1.dE1 h (k.mono s1)
  obtain ⟨x, n1, h1, h⟩ := M.bind_ok e
  obtain ⟨y, n2, h2, h⟩ := M.bind_ok h
  obtain ⟨h3, h4⟩ := M.opt_ok h
  subst h4
  exact ⟨fr, F, ρ, n, .ok x, n1, R, h1, fun F1 H1 v R1 s1 d1 => ⟨fr, F1, ρ, n1, .ok y, _, R1, h2, fun F2 H2 u R2 s2 d2 => hd fr F2 H2 σ ρ _ x y d v u Q R2 (d1.mono s2 fun _ z => z) d2 h3 fun F3 H3 w R3 s3 d3 => k F3 H3 w R3 ((s1.trans s2).trans s3) d3⟩⟩
theorem d_op {a b : Expr} {fa fb : EX} {o : Operator} {r : R2} {op : D → D → Option D} {pos : Pos} (ho : OpR X (binaryOp o) r) (hd : Op2 X.K W r op) (ha : PD X W a fa) (hb : PD X W b fb) : PD X W (.BinOp a o b pos) (e2 op fa fb) := imp_E (pe_op ho ha hb) fun _ _ _ h => d_tOp hd h
theorem d_cmp {a b : Expr} {fa fb : EX} {o : CmpOp} {r : R2} {op : D → D → Option D} {pos : Pos} (ho : OpR X (compareOp o) r) (hd : Op2 X.K W r op) (ha : PD X W a fa) (hb : PD X W b fb) (hm : behindInMarks o b = false) : PD X W (.Compare a [o] [b] pos) (e2 op fa fb) := imp_E (pe_cmpR ho ha hb hm) fun _ _ _ h => d_tOp hd h

def dAdd : D → D → Option D
  | .int a, .int b => some (.int (a + b))
  | .str a, .str b => if a.length + b.length ≤ sizeLine then some (.str (a ++ b)) else none
  | .tup a, .tup b => mkTup (a ++ b)
  | .lst a, .lst b => mkLst (a ++ b)
  | _, _ => none
theorem dens_nil {K : PySem.W.Frag} {dr : Option Addr} {F : Hp} {vs : List V} (h : Dens K W dr F vs []) : vs = [] := by cases h; rfl
theorem dens_ne {K : PySem.W.Frag} {dr : Option Addr} {F : Hp} {vs : List V} {ds : List D} (h : Dens K W dr F vs ds) : vs = [] ↔ ds = [] := by
  cases h <;> simp
abbrev rAddD (K : PySem.W.Frag) : R2 := fun x y H Q => (((rI0 fun i j => .int (i + j)) x y H Q ∨ (∃ i j, x = .str i ∧ y = .str j ∧ i.length + j.length ≤ sizeLine ∧ Q (.str (i ++ j)) H)) ∨ rCatA K x y H Q) ∨ rCat x y H Q
theorem o_add : OpR X (binaryOp .Add) (rAddD X.K) := ((op_add.or op_add_str).or op_catA).or op_cat
theorem q_add {K : PySem.W.Frag} : Op2 K W (rAddD K) dAdd := by
  intro fr F H σ ρ n x y d v u Q R dx dy h k
  unfold dAdd at h
  split at h
  · cases dx; cases dy; cases h
    exact .inl (.inl (.inl ⟨_, _, rfl, rfl, k F H _ R (Sub.refl _) (.int _)⟩))
  · split at h
    · cases dx; cases dy; cases h
      exact .inl (.inl (.inr ⟨_, _, rfl, rfl, ‹_›, k F H _ R (Sub.refl _) (.str _)⟩))
    · cases h
  · obtain ⟨rfl, hz⟩ := mkTup_ok h
    cases dx with
    | tup hx rx =>
      cases dy with
      | tup hy ry =>
        refine .inl (.inr ⟨_, _, _, _, rfl, rfl, R.core.sub.sqT hx, R.core.sub.sqT hy, by rw [rx.length, ry.length, ← List.length_append]; exact hz, fun e => ?_, fun e1 e2 => ?_, fun e1 e2 => ?_⟩)
        · rw [(dens_ne rx).mp e, List.nil_append] at k
          exact k F H _ R (Sub.refl _) (.tup hy ry)
        · rw [(dens_ne ry).mp e2, List.append_nil] at k
          exact k F H _ R (Sub.refl _) (.tup hx rx)
        · exact put_tup R (rx.append ry) k
  · obtain ⟨rfl, hz⟩ := mkLst_ok h
    cases dx with
    | lst hx rx =>
      cases dy with
      | lst hy ry =>
        exact .inr ⟨_, _, _, _, rfl, rfl, R.core.sub _ _ hx, R.core.sub _ _ hy, by rw [rx.length, ry.length, ← List.length_append]; exact hz, put_lst R (rx.append ry) k⟩
  · cases h
theorem d_add {a b : Expr} {fa fb : EX} {pos : Pos} (ha : PD X W a fa) (hb : PD X W b fb) : PD X W (.BinOp a .Add b pos) (e2 dAdd fa fb) := d_op o_add q_add ha hb

/-- an operator of ints -/
def dI (C : Int → Int → Bool) (g : Int → Int → D) : D → D → Option D
  | .int a, .int b => if C a b then some (g a b) else none
  | _, _ => none
theorem q_I {K : PySem.W.Frag} {C : Int → Int → Prop} {D' : Int → Int → Bool} {g : Int → Int → V} {gd : Int → Int → D} (hC : ∀ i j, D' i j = true → C i j) (hg : ∀ K W dr F i j, Den K W dr F (g i j) (gd i j)) : Op2 K W (rI C g) (dI D' gd) := by
  intro fr F H σ ρ n x y d v u Q R dx dy h k
  unfold dI at h
  split at h
  · split at h
    · cases dx; cases dy; cases h
      exact ⟨_, _, rfl, rfl, hC _ _ ‹_›, k F H _ R (Sub.refl _) (hg _ _ _ _ _ _)⟩
    · cases h
  · cases h
theorem q_I0 {K : PySem.W.Frag} {g : Int → Int → V} {gd : Int → Int → D} (hg : ∀ K W dr F i j, Den K W dr F (g i j) (gd i j)) : Op2 K W (rI0 g) (dI (fun _ _ => true) gd) := by
  intro fr F H σ ρ n x y d v u Q R dx dy h k
  unfold dI at h
  split at h
  · cases dx; cases dy; cases h
    exact ⟨_, _, rfl, rfl, k F H _ R (Sub.refl _) (hg _ _ _ _ _ _)⟩
  · cases h
def dSub : D → D → Option D := dI (fun _ _ => true) fun i j => .int (i - j)
def small64 (i : Int) : Bool := decide (-(2 ^ 64) < i) && decide (i < 2 ^ 64)
def dMulI : D → D → Option D := dI (fun i j => small64 i || small64 j) fun i j => .int (i * j)
def dMod : D → D → Option D := dI (fun _ j => decide (0 < j)) fun i j => .int (i % j)
def dDiv : D → D → Option D := dI (fun _ j => decide (0 < j) && decide (j < 1073741824)) fun i j => .int (i / j)
def dPow : D → D → Option D := dI (fun i j => decide (0 ≤ j) && decide (j ≤ 1000000) && decide (i.natAbs < 2 ^ 64)) fun i j => .int (i ^ j.toNat)
theorem d_sub {a b : Expr} {fa fb : EX} {pos : Pos} (ha : PD X W a fa) (hb : PD X W b fb) : PD X W (.BinOp a .Sub b pos) (e2 dSub fa fb) := d_op op_sub (q_I0 fun _ _ _ _ _ _ => .int _) ha hb
theorem small64_ok {i : Int} (h : small64 i = true) : -(2 ^ 64) < i ∧ i < 2 ^ 64 := by
  unfold small64 at h
  simp only [Bool.and_eq_true, decide_eq_true_eq] at h
  exact h
theorem d_mulI {a b : Expr} {fa fb : EX} {pos : Pos} (ha : PD X W a fa) (hb : PD X W b fb) : PD X W (.BinOp a .Mult b pos) (e2 dMulI fa fb) := d_op op_mul (q_I (fun i j h => by
  rw [Bool.or_eq_true] at h
  exact h.imp small64_ok small64_ok) fun _ _ _ _ _ _ => .int _) ha hb
theorem d_mod {a b : Expr} {fa fb : EX} {pos : Pos} (ha : PD X W a fa) (hb : PD X W b fb) : PD X W (.BinOp a .Mod b pos) (e2 dMod fa fb) := d_op op_mod (q_I (fun i j h => of_decide_eq_true h) fun _ _ _ _ _ _ => .int _) ha hb
theorem d_div {a b : Expr} {fa fb : EX} {pos : Pos} (ha : PD X W a fa) (hb : PD X W b fb) : PD X W (.BinOp a .FloorDiv b pos) (e2 dDiv fa fb) := d_op op_fdiv (q_I (fun i j h => by
  simp only [Bool.and_eq_true, decide_eq_true_eq] at h
  exact h) fun _ _ _ _ _ _ => .int _) ha hb
theorem d_pow {a b : Expr} {fa fb : EX} {pos : Pos} (ha : PD X W a fa) (hb : PD X W b fb) : PD X W (.BinOp a .Pow b pos) (e2 dPow fa fb) := d_op op_pow (q_I (fun i j h => by
  simp only [Bool.and_eq_true, decide_eq_true_eq] at h
  exact ⟨h.1.1, h.1.2, h.2⟩) fun _ _ _ _ _ _ => .int _) ha hb

/-! ### comparisons -/
def strLt (a b : Str) : Bool := decide (a.cps.toList < b.cps.toList)
def strLe (a b : Str) : Bool := !decide (b.cps.toList < a.cps.toList)
def dLt : D → D → Option D
  | .int a, .int b => some (.bl (decide (a < b)))
  | .str a, .str b => some (.bl (strLt a b))
  | _, _ => none
theorem d_lt {a b : Expr} {fa fb : EX} {pos : Pos} (ha : PD X W a fa) (hb : PD X W b fb) : PD X W (.Compare a [.Lt] [b] pos) (e2 dLt fa fb) := d_cmp (op_lt.or op_lt_str) (by
  intro fr F H σ ρ n x y d v u Q R dx dy h k
  unfold dLt at h
  split at h
  · cases dx; cases dy; cases h
    exact .inl ⟨_, _, rfl, rfl, k F H _ R (Sub.refl _) (.bl _)⟩
  · cases dx; cases dy; cases h
    exact .inr ⟨_, _, rfl, rfl, k F H _ R (Sub.refl _) (.bl _)⟩
  · cases h) ha hb (nomark _)
def dCI (p : Int → Int → Bool) : D → D → Option D := dI (fun _ _ => true) fun i j => .bl (p i j)
abbrev dLe := dCI fun i j => decide (i ≤ j)
abbrev dGt := dCI fun i j => decide (j < i)
abbrev dGe := dCI fun i j => decide (j ≤ i)
theorem d_le {a b : Expr} {fa fb : EX} {pos : Pos} (ha : PD X W a fa) (hb : PD X W b fb) : PD X W (.Compare a [.LtE] [b] pos) (e2 dLe fa fb) := d_cmp op_le (q_I0 fun _ _ _ _ _ _ => .bl _) ha hb (nomark _)
theorem d_gt {a b : Expr} {fa fb : EX} {pos : Pos} (ha : PD X W a fa) (hb : PD X W b fb) : PD X W (.Compare a [.Gt] [b] pos) (e2 dGt fa fb) := d_cmp op_gt (q_I0 fun _ _ _ _ _ _ => .bl _) ha hb (nomark _)
theorem d_ge {a b : Expr} {fa fb : EX} {pos : Pos} (ha : PD X W a fa) (hb : PD X W b fb) : PD X W (.Compare a [.GtE] [b] pos) (e2 dGe fa fb) := d_cmp op_ge (q_I0 fun _ _ _ _ _ _ => .bl _) ha hb (nomark _)

mutual
def toPy : D → Option PyData
  | .non => some .none
  | .bl b => some (.bool b)
  | .int i => some (.int i)
  | .str x => some (.str x)
  | .tup xs => match toPys xs with | some ys => some (.tuple ys) | none => none
  | .lst xs => match toPys xs with | some ys => some (.list ys) | none => none
  | _ => none
def toPys : List D → Option (List PyData)
  | [] => some []
  | x :: xs => match toPy x, toPys xs with | some y, some ys => some (y :: ys) | _, _ => none
end
mutual
theorem dp_of {K : PySem.W.Frag} {dr : Option Addr} {F H : Hp} (s : Sub F H) : ∀ {v : V} {d : D} {p : PyData}, Den K W dr F v d → toPy d = some p → Dp K H v p
  | _, _, _, .non, h => by unfold toPy at h; cases h; exact .non
  | _, _, _, .bl b, h => by unfold toPy at h; cases h; exact .bl b
  | _, _, _, .int b, h => by unfold toPy at h; cases h; exact .int b
  | _, _, _, .str b, h => by unfold toPy at h; cases h; exact .str b
  | _, _, _, .tup h1 h2, h => by
    unfold toPy at h
    split at h
    · cases h; exact .tup (s.sqT h1) (dps_of s h2 ‹_›)
    · cases h
  | _, _, _, .lst h1 h2, h => by
    unfold toPy at h
    split at h
    · cases h; exact .lst (SqL.of (s _ _ h1)) (dps_of s h2 ‹_›)
    · cases h
  | _, _, _, .scr _, h => by simp [toPy] at h
  | _, _, _, .dic _ _ _, h => by simp [toPy] at h
  | _, _, _, .dit _ _ _, h => by simp [toPy] at h
  | _, _, _, .obj _ _ _, h => by simp [toPy] at h
  | _, _, _, .drw _, h => by simp [toPy] at h
theorem dps_of {K : PySem.W.Frag} {dr : Option Addr} {F H : Hp} (s : Sub F H) : ∀ {vs : List V} {ds : List D} {ps : List PyData}, Dens K W dr F vs ds → toPys ds = some ps → DpAll K H vs ps
  | _, _, _, .nil, h => by unfold toPys at h; cases h; exact .nil
  | _, _, _, .cons h1 h2, h => by
    unfold toPys at h
    split at h
    · cases h; exact .cons (dp_of s h1 ‹_›) (dps_of s h2 ‹_›)
    · cases h
end
def dEqB (x y : D) : Option Bool := match toPy x, toPy y with
  | some a, some b => if SeqAt.shaped a && SeqAt.shaped b then some (PyData.eqv a b) else none
  | _, _ => none
def dEq (x y : D) : Option D := match dEqB x y with | some b => some (.bl b) | none => none
def dNe (x y : D) : Option D := match dEqB x y with | some b => some (.bl (!b)) | none => none
theorem dEqB_ok {x y : D} {b : Bool} (h : dEqB x y = some b) : ∃ p q, toPy x = some p ∧ toPy y = some q ∧ SeqAt.shaped p = true ∧ SeqAt.shaped q = true ∧ b = PyData.eqv p q := by
  unfold dEqB at h
  split at h
  · split at h
    · rename_i a b h1 h2 hs
      rw [Bool.and_eq_true] at hs
      cases h
      exact ⟨_, _, h1, h2, hs.1, hs.2, rfl⟩
    · cases h
  · cases h
theorem d_eq {a b : Expr} {fa fb : EX} {pos : Pos} (hu : X.A.units + 64 < cLine) (ha : PD X W a fa) (hb : PD X W b fb) : PD X W (.Compare a [.Eq] [b] pos) (e2 dEq fa fb) := d_cmp (op_eqD hu) (by
  intro fr F H σ ρ n x y d v u Q R dx dy h k
  unfold dEq at h
  split at h
  · cases h
    obtain ⟨p, q, h1, h2, h3, h4, rfl⟩ := dEqB_ok ‹_›
    exact ⟨p, q, dp_of R.core.sub dx h1, dp_of R.core.sub dy h2, h3, h4, k F H _ R (Sub.refl _) (.bl _)⟩
  · cases h) ha hb (nomark _)
theorem d_ne {a b : Expr} {fa fb : EX} {pos : Pos} (hu : X.A.units + 64 < cLine) (ha : PD X W a fa) (hb : PD X W b fb) : PD X W (.Compare a [.NotEq] [b] pos) (e2 dNe fa fb) := d_cmp (op_neD hu) (by
  intro fr F H σ ρ n x y d v u Q R dx dy h k
  unfold dNe at h
  split at h
  · cases h
    obtain ⟨p, q, h1, h2, h3, h4, rfl⟩ := dEqB_ok ‹_›
    exact ⟨p, q, dp_of R.core.sub dx h1, dp_of R.core.sub dy h2, h3, h4, k F H _ R (Sub.refl _) (.bl _)⟩
  · cases h) ha hb (nomark _)
/-- is None -/
def e1 (op : D → Option D) (fa : EX) : EX := fun ρ => M.bind (fa ρ) fun x => M.opt (op x)
def isNon : D → Bool | .non => true | _ => false
theorem isNon_of {K : PySem.W.Frag} {dr : Option Addr} {F : Hp} {v : V} {d : D} (h : Den K W dr F v d) : decide (v = .non) = isNon d := by
  cases h <;> simp [isNon]
theorem d_isN {a : Expr} {fa : EX} {j p pos} (ha : PD X W a fa) : PD X W (.Compare a [.Is] [.Constant .none j p] pos) (e1 (fun d => some (.bl (isNon d))) fa) := imp_E (pe_cmp (pc_isN ha) rfl) fun σ H Q ⟨fr, F, ρ, n, r, n', R, e, k⟩ => by
  rcases r with z | d
  · exact R.dE1 e k
  obtain ⟨x, n1, h1, h⟩ := M.bind_ok e
  obtain ⟨h2, h3⟩ := M.opt_ok h
  subst h3; cases h2
  exact ⟨fr, F, ρ, n, .ok x, _, R, h1, fun F1 H1 v R1 s1 d1 => by show Q _ H1; rw [isNon_of d1]; exact k F1 H1 _ R1 s1 (.bl _)⟩
theorem d_notN {a : Expr} {fa : EX} {j p pos} (ha : PD X W a fa) : PD X W (.Compare a [.IsNot] [.Constant .none j p] pos) (e1 (fun d => some (.bl (!isNon d))) fa) := imp_E (pe_cmp (pc_notN ha) rfl) fun σ H Q ⟨fr, F, ρ, n, r, n', R, e, k⟩ => by
  rcases r with z | d
  · exact R.dE1 e k
  obtain ⟨x, n1, h1, h⟩ := M.bind_ok e
  obtain ⟨h2, h3⟩ := M.opt_ok h
  subst h3; cases h2
  exact ⟨fr, F, ρ, n, .ok x, _, R, h1, fun F1 H1 v R1 s1 d1 => by show Q _ H1; rw [isNon_of d1]; exact k F1 H1 _ R1 s1 (.bl _)⟩
/-- unary minus -/
def dNeg : D → Option D | .int i => some (.int (-i)) | _ => none
theorem d_neg {a : Expr} {fa : EX} {pos : Pos} (ha : PD X W a fa) : PD X W (.UnaryOp .USub a pos) (e1 dNeg fa) := imp_E (pe_un un_neg ha) fun σ H Q ⟨fr, F, ρ, n, r, n', R, e, k⟩ => by
  rcases r with z | d
  · exact R.dE1 e k
  obtain ⟨x, n1, h1, h⟩ := M.bind_ok e
  obtain ⟨h2, h3⟩ := M.opt_ok h
  subst h3
  refine ⟨fr, F, ρ, n, .ok x, _, R, h1, fun F1 H1 v R1 s1 d1 => ?_⟩
  unfold dNeg at h2
  split at h2
  · cases h2; cases d1
    exact ⟨_, rfl, k F1 H1 _ R1 s1 (.int _)⟩
  · cases h2
end
end DL
end

section
set_option Elab.async false
set_option linter.all false
set_option autoImplicit false
set_option maxRecDepth 100000
namespace DL
open PySem PySem.Spec L2
section
variable {X : Cx} {W : Wd}

/-! ### truth, tests -/
def dTru : D → Option Bool
  | .non => some false
  | .bl b => some b
  | .int i => some (i != 0)
  | .str x => if x.length ≤ sizeLine then some ((x.length : Int) != 0) else none
  | .tup xs => some (!xs.isEmpty)
  | .lst xs => some (!xs.isEmpty)
  | .scr => none
  | .dic _ _ => none
  | .dit _ _ => none
  | .obj _ _ _ => none
  | .drw => none
theorem tru_of {K : PySem.W.Frag} {dr : Option Addr} {F H : Hp} (s : Sub F H) {v : V} {d : D} {b : Bool} (h : Den K W dr F v d) (e : dTru d = some b) : TruV K v H b := by
  cases h with
  | non => cases e; rfl
  | bl b => cases e; rfl
  | int i => cases e; rfl
  | str x =>
    unfold dTru at e
    split at e <;> simp_all [TruV]
  | tup h1 h2 =>
    cases e
    exact .inr (.inl ⟨_, s.sqT h1, by cases h2 <;> rfl⟩)
  | lst h1 h2 =>
    cases e
    exact .inl ⟨_, SqL.of (s _ _ h1), by cases h2 <;> rfl⟩
  | scr _ => cases e
  | dic _ _ _ => cases e
  | dit _ _ _ => cases e
  | obj _ _ _ => cases e
  | drw _ => cases e
/-- the truth of a value, as a test -/
def tTru (f : EX) : TX := fun ρ => M.bind (f ρ) fun d => M.opt (dTru d)
theorem t_tru {a : Expr} {f : EX} (ha : PD X W a f) (he : ∀ whole, isTrue a X.env whole = (do let v ← whole; standAt a.pos; holding [v] (truthy v)) := by intro _; rfl) : PDT X W a (tTru f) := imp_T (pt_truth ha he) fun σ H Q ⟨fr, F, ρ, n, r, n', R, e, k⟩ => by
  rcases r with z | b
  · exact R.dE1 e k
  obtain ⟨x, n1, h1, h⟩ := M.bind_ok e
  obtain ⟨h2, h3⟩ := M.opt_ok h
  subst h3
  exact ⟨fr, F, ρ, n, .ok x, _, R, h1, fun F1 H1 v R1 s1 d1 => ⟨b, tru_of R1.core.sub d1 h2, k F1 H1 R1 s1⟩⟩
/-- a comparison as a test -/
def dBool : D → Option Bool | .bl b => some b | _ => none
def tB (f : EX) : TX := fun ρ => M.bind (f ρ) fun d => M.opt (dBool d)
theorem t_test {t : TE} {f : EX} (h : ∀ σ H Q, tD X W f σ H Q → t σ H Q) {σ : St} {H : Hp} {Q : Bool → Hp → Prop} (h' : tT X W (tB f) σ H Q) : tTest t σ H Q := by
  obtain ⟨fr, F, ρ, n, r, n', R, e, k⟩ := h'
  rcases r with z | b
  · exact h σ H _ (R.dE1 e k)
  obtain ⟨x, n1, h1, h2⟩ := M.bind_ok e
  obtain ⟨h3, h4⟩ := M.opt_ok h2
  subst h4
  refine h σ H _ ⟨fr, F, ρ, n, .ok x, _, R, h1, fun F1 H1 v R1 s1 d1 => ?_⟩
  unfold dBool at h3
  split at h3
  · cases h3; cases d1; exact ⟨_, rfl, k F1 H1 R1 s1⟩
  · cases h3
theorem t_cmp {a b : Expr} {fa fb : EX} {o : CmpOp} {r : R2} {op : D → D → Option D} {pos : Pos} (ho : OpR X (compareOp o) r) (hd : Op2 X.K W r op) (ha : PD X W a fa) (hb : PD X W b fb) (hm : behindInMarks o b = false) : PDT X W (.Compare a [o] [b] pos) (tB (e2 op fa fb)) := imp_T (pt_cmpR ho ha hb hm) fun σ H Q h => t_test (fun _ _ _ => d_tOp hd) h
def eChain (o1 o2 : D → D → Option D) (fa fb fc : EX) : EX := fun ρ => M.bind (fa ρ) fun x => M.bind (fb ρ) fun y => M.bind (M.opt (o1 x y)) fun r => match r with
  | .bl true => M.bind (fc ρ) fun z => M.opt (o2 y z)
  | .bl false => M.pure (.bl false)
  | _ => M.opt none
theorem d_tChain {r r' : R2} {o1 o2 : D → D → Option D} {fa fb fc : EX} (h1 : Op2 X.K W r o1) (h2 : Op2 X.K W r' o2) {σ : St} {H : Hp} {Q : VK} (h : tD X W (eChain o1 o2 fa fb fc) σ H Q) : tChain r r' (tD X W fa) (tD X W fb) (tD X W fc) σ H Q := by
  obtain ⟨fr, F, ρ, n, r, n', R, e, k⟩ := h
  rcases r with z | d
  · refine R.dE e k fun x n1 F1 H1 v e1 h R1 s1 d1 => R1.dE h (k.mono s1) fun y n2 F2 H2 u e2 h R2 s2 d2 => ?_
    rcases M.bind_err h with h9 | ⟨t, n3, e3, h9⟩
    · exact (M.opt_err h9).elim
    obtain ⟨e4, e5⟩ := M.opt_ok e3
    subst e5
    clear h
    refine h1 fr F2 H2 σ ρ _ x y t v u _ R2 (d1.mono s2 fun _ z => z) d2 e4 fun F3 H3 w R3 s3 d3 => ?_
    split at h9
    · cases d3
      refine ⟨true, rfl, ?_⟩
      rw [if_pos rfl]
      exact R3.dE1 h9 ((k.mono (s1.trans s2)).mono s3)
    · exact (M.pure_err h9).elim
    · exact (M.opt_err h9).elim
  obtain ⟨x, n1, e1, ha⟩ := M.bind_ok e
  obtain ⟨y, n2, e2, hb⟩ := M.bind_ok ha
  obtain ⟨z, n3, e3, h⟩ := M.bind_ok hb
  obtain ⟨e4, e5⟩ := M.opt_ok e3
  clear ha hb
  subst e5
  refine ⟨fr, F, ρ, n, .ok x, n1, R, e1, fun F1 H1 v R1 s1 d1 => ⟨fr, F1, ρ, n1, .ok y, _, R1, e2, fun F2 H2 u R2 s2 d2 => ?_⟩⟩
  refine h1 fr F2 H2 σ ρ _ x y z v u _ R2 (d1.mono s2 fun _ z => z) d2 e4 fun F3 H3 w R3 s3 d3 => ?_
  split at h
  · cases d3
    refine ⟨true, rfl, ?_⟩
    rw [if_pos rfl]
    obtain ⟨t, n4, e6, h⟩ := M.bind_ok h
    obtain ⟨e7, e8⟩ := M.opt_ok h
    subst e8
    exact ⟨fr, F3, ρ, _, .ok t, _, R3, e6, fun F4 H4 w' R4 s4 d4 => h2 fr F4 H4 σ ρ _ y t d u w' Q R4 (d2.mono (s3.trans s4) fun _ z => z) d4 e7 fun F5 H5 w5 R5 s5 d5 => k F5 H5 w5 R5 ((((s1.trans s2).trans s3).trans s4).trans s5) d5⟩
  · cases d3
    refine ⟨false, rfl, ?_⟩
    rw [if_neg Bool.false_ne_true]
    obtain ⟨e6, e7⟩ := M.pure_ok h
    subst e6 e7
    exact k F3 H3 _ R3 ((s1.trans s2).trans s3) (.bl _)
  · obtain ⟨q, _⟩ := M.opt_ok h
    cases q
theorem d_chain {a b c : Expr} {fa fb fc : EX} {p q : CmpOp} {r r' : R2} {o1 o2 : D → D → Option D} {pos : Pos} (ho : OpR X (compareOp p) r) (ho' : OpR X (compareOp q) r') (h1 : Op2 X.K W r o1) (h2 : Op2 X.K W r' o2) (ha : PD X W a fa) (hb : PD X W b fb) (hc : PD X W c fc)
    (hm : lastMarks [p, q] [b, c] = false := by with_unfolding_all rfl) : PD X W (.Compare a [p, q] [b, c] pos) (eChain o1 o2 fa fb fc) := imp_E (pe_chain ho ho' ha hb hc hm) fun _ _ _ h => d_tChain h1 h2 h
theorem t_chain {a b c : Expr} {fa fb fc : EX} {p q : CmpOp} {r r' : R2} {o1 o2 : D → D → Option D} {pos : Pos} (ho : OpR X (compareOp p) r) (ho' : OpR X (compareOp q) r') (h1 : Op2 X.K W r o1) (h2 : Op2 X.K W r' o2) (ha : PD X W a fa) (hb : PD X W b fb) (hc : PD X W c fc)
    (hm : lastMarks [p, q] [b, c] = false := by with_unfolding_all rfl) : PDT X W (.Compare a [p, q] [b, c] pos) (tB (eChain o1 o2 fa fb fc)) := imp_T (pt_chain ho ho' ha hb hc hm) fun _ _ _ h => t_test (fun _ _ _ => d_tChain h1 h2) h
/-- and, or, not, as tests -/
def tAndD (t u : TX) : TX := fun ρ => M.bind (t ρ) fun b => match b with | true => u ρ | false => M.pure false
def tOrD (t u : TX) : TX := fun ρ => M.bind (t ρ) fun b => match b with | true => M.pure true | false => u ρ
def tNotD (t : TX) : TX := fun ρ => M.bind (t ρ) fun b => M.pure (!b)
theorem w_and1 {a : Expr} {t : TX} {pos : Pos} (h : PDT X W a t) : PDW X W (.BoolOp .And [a] pos) t := pw_and1 h
theorem w_or1 {a : Expr} {t : TX} {pos : Pos} (h : PDT X W a t) : PDW X W (.BoolOp .Or [a] pos) t := pw_or1 h
theorem tAnd_of {t u : TX} {σ : St} {H : Hp} {Q : Bool → Hp → Prop} (h : tT X W (tAndD t u) σ H Q) : tAnd (tT X W t) (tT X W u) σ H Q := by
  obtain ⟨fr, F, ρ, n, r, n', R, e, k⟩ := h
  rcases r with z | b
  · refine R.tE e k fun b n1 F1 H1 e1 h R1 s1 => ?_
    cases b with
    | false => exact (M.pure_err h).elim
    | true =>
      rw [if_pos rfl]
      exact ⟨fr, F1, ρ, n1, .error z, n', R1, h, k.mono s1⟩
  obtain ⟨x, n1, e1, h⟩ := M.bind_ok e
  refine ⟨fr, F, ρ, n, .ok x, n1, R, e1, fun F1 H1 R1 s1 => ?_⟩
  cases x with
  | true =>
    rw [if_pos rfl]
    exact ⟨fr, F1, ρ, n1, .ok b, n', R1, h, fun F2 H2 R2 s2 => k F2 H2 R2 (s1.trans s2)⟩
  | false =>
    rw [if_neg Bool.false_ne_true]
    obtain ⟨e6, e7⟩ := M.pure_ok h
    subst e6 e7
    exact k F1 H1 R1 s1
theorem tOr_of {t u : TX} {σ : St} {H : Hp} {Q : Bool → Hp → Prop} (h : tT X W (tOrD t u) σ H Q) : tOr (tT X W t) (tT X W u) σ H Q := by
  obtain ⟨fr, F, ρ, n, r, n', R, e, k⟩ := h
  rcases r with z | b
  · refine R.tE e k fun b n1 F1 H1 e1 h R1 s1 => ?_
    cases b with
    | true => exact (M.pure_err h).elim
    | false =>
      rw [if_neg Bool.false_ne_true]
      exact ⟨fr, F1, ρ, n1, .error z, n', R1, h, k.mono s1⟩
  obtain ⟨x, n1, e1, h⟩ := M.bind_ok e
  refine ⟨fr, F, ρ, n, .ok x, n1, R, e1, fun F1 H1 R1 s1 => ?_⟩
  cases x with
  | false =>
    rw [if_neg Bool.false_ne_true]
    exact ⟨fr, F1, ρ, n1, .ok b, n', R1, h, fun F2 H2 R2 s2 => k F2 H2 R2 (s1.trans s2)⟩
  | true =>
    rw [if_pos rfl]
    obtain ⟨e6, e7⟩ := M.pure_ok h
    subst e6 e7
    exact k F1 H1 R1 s1
theorem w_and {a b : Expr} {r : List Expr} {t u : TX} {pos : Pos} (h : PDT X W a t) (h' : PDW X W (.BoolOp .And (b :: r) pos) u) : PDW X W (.BoolOp .And (a :: b :: r) pos) (tAndD t u) := imp_W (pw_and h h') fun _ _ _ => tAnd_of
theorem w_or {a b : Expr} {r : List Expr} {t u : TX} {pos : Pos} (h : PDT X W a t) (h' : PDW X W (.BoolOp .Or (b :: r) pos) u) : PDW X W (.BoolOp .Or (a :: b :: r) pos) (tOrD t u) := imp_W (pw_or h h') fun _ _ _ => tOr_of
theorem t_w {e : Expr} {t : TX} (h : PDW X W e t) : PDT X W e t := h.pt
theorem t_not {a : Expr} {t : TX} {pos : Pos} (h : PDT X W a t) : PDT X W (.UnaryOp .Not a pos) (tNotD t) := imp_T (pt_not h) fun σ H Q ⟨fr, F, ρ, n, r, n', R, e, k⟩ => by
  rcases r with z | b
  · exact R.tE e k fun _ _ _ _ _ h _ _ => (M.pure_err h).elim
  obtain ⟨x, n1, e1, h⟩ := M.bind_ok e
  obtain ⟨e6, e7⟩ := M.pure_ok h
  subst e6 e7
  exact ⟨fr, F, ρ, n, .ok x, _, R, e1, fun F1 H1 R1 s1 => k F1 H1 R1 s1⟩
/-- and, or, not, as values -/
def eAnd (f g : EX) : EX := fun ρ => M.bind (f ρ) fun d => M.bind (M.opt (dTru d)) fun b => match b with | true => g ρ | false => M.pure d
def eOr (f g : EX) : EX := fun ρ => M.bind (f ρ) fun d => M.bind (M.opt (dTru d)) fun b => match b with | true => M.pure d | false => g ρ
def eNot (f : EX) : EX := fun ρ => M.bind (f ρ) fun d => M.bind (M.opt (dTru d)) fun b => M.pure (.bl (!b))
theorem d_one {a : Expr} {f : EX} {o : BoolOp} {pos : Pos} (h : PD X W a f) : PD X W (.BoolOp o [a] pos) f := pe_one h
theorem d_and {a b : Expr} {r : List Expr} {f g : EX} {pos : Pos} (h : PD X W a f) (h' : PD X W (.BoolOp .And (b :: r) pos) g) : PD X W (.BoolOp .And (a :: b :: r) pos) (eAnd f g) := imp_E (pe_andT h h') fun σ H Q ⟨fr, F, ρ, n, r, n', R, e, k⟩ => by
  rcases r with z | d
  · refine R.dE e k fun x n1 F1 H1 v e1 h R1 s1 d1 => ?_
    rcases M.bind_err h with h | ⟨b, n2, e2, h⟩
    · exact (M.opt_err h).elim
    obtain ⟨e3, e4⟩ := M.opt_ok e2
    subst e4
    refine ⟨b, tru_of R1.core.sub d1 e3, ?_⟩
    cases b with
    | false => exact (M.pure_err h).elim
    | true =>
      rw [if_pos rfl]
      exact ⟨fr, F1, ρ, _, .error z, n', R1, h, k.mono s1⟩
  obtain ⟨x, n1, e1, ha⟩ := M.bind_ok e
  obtain ⟨b, n2, e2, h⟩ := M.bind_ok ha
  obtain ⟨e3, e4⟩ := M.opt_ok e2
  clear ha
  subst e4
  refine ⟨fr, F, ρ, n, .ok x, _, R, e1, fun F1 H1 v R1 s1 d1 => ⟨b, tru_of R1.core.sub d1 e3, ?_⟩⟩
  cases b with
  | true =>
    rw [if_pos rfl]
    exact ⟨fr, F1, ρ, _, .ok d, n', R1, h, fun F2 H2 u R2 s2 d2 => k F2 H2 u R2 (s1.trans s2) d2⟩
  | false =>
    rw [if_neg Bool.false_ne_true]
    obtain ⟨e6, e7⟩ := M.pure_ok h
    subst e6 e7
    exact k F1 H1 v R1 s1 d1
theorem d_or {a b : Expr} {r : List Expr} {f g : EX} {pos : Pos} (h : PD X W a f) (h' : PD X W (.BoolOp .Or (b :: r) pos) g) : PD X W (.BoolOp .Or (a :: b :: r) pos) (eOr f g) := imp_E (pe_orT h h') fun σ H Q ⟨fr, F, ρ, n, r, n', R, e, k⟩ => by
  rcases r with z | d
  · refine R.dE e k fun x n1 F1 H1 v e1 h R1 s1 d1 => ?_
    rcases M.bind_err h with h | ⟨b, n2, e2, h⟩
    · exact (M.opt_err h).elim
    obtain ⟨e3, e4⟩ := M.opt_ok e2
    subst e4
    refine ⟨b, tru_of R1.core.sub d1 e3, ?_⟩
    cases b with
    | true => exact (M.pure_err h).elim
    | false =>
      rw [if_neg Bool.false_ne_true]
      exact ⟨fr, F1, ρ, _, .error z, n', R1, h, k.mono s1⟩
  obtain ⟨x, n1, e1, ha⟩ := M.bind_ok e
  obtain ⟨b, n2, e2, h⟩ := M.bind_ok ha
  obtain ⟨e3, e4⟩ := M.opt_ok e2
  clear ha
  subst e4
  refine ⟨fr, F, ρ, n, .ok x, _, R, e1, fun F1 H1 v R1 s1 d1 => ⟨b, tru_of R1.core.sub d1 e3, ?_⟩⟩
  cases b with
  | false =>
    rw [if_neg Bool.false_ne_true]
    exact ⟨fr, F1, ρ, _, .ok d, n', R1, h, fun F2 H2 u R2 s2 d2 => k F2 H2 u R2 (s1.trans s2) d2⟩
  | true =>
    rw [if_pos rfl]
    obtain ⟨e6, e7⟩ := M.pure_ok h
    subst e6 e7
    exact k F1 H1 v R1 s1 d1
theorem d_not {a : Expr} {f : EX} {pos : Pos} (h : PD X W a f) : PD X W (.UnaryOp .Not a pos) (eNot f) := imp_E (pe_notT h) fun σ H Q ⟨fr, F, ρ, n, r, n', R, e, k⟩ => by
  rcases r with z | d
  · refine R.dE e k fun x n1 F1 H1 v e1 h R1 s1 d1 => ?_
    rcases M.bind_err h with h | ⟨b, n2, e2, h⟩
    · exact (M.opt_err h).elim
    · exact (M.pure_err h).elim
  obtain ⟨x, n1, e1, ha⟩ := M.bind_ok e
  obtain ⟨b, n2, e2, h⟩ := M.bind_ok ha
  obtain ⟨e3, e4⟩ := M.opt_ok e2
  clear ha
  subst e4
  obtain ⟨e6, e7⟩ := M.pure_ok h
  subst e6 e7
  exact ⟨fr, F, ρ, n, .ok x, _, R, e1, fun F1 H1 v R1 s1 d1 => ⟨b, tru_of R1.core.sub d1 e3, k F1 H1 _ R1 s1 (.bl _)⟩⟩
def eIf (t : TX) (f g : EX) : EX := fun ρ => M.bind (t ρ) fun b => match b with | true => f ρ | false => g ρ
theorem d_if {c a b : Expr} {t : TX} {f g : EX} {pos : Pos} (hc : PDT X W c t) (ha : PD X W a f) (hb : PD X W b g) : PD X W (.IfExp c a b pos) (eIf t f g) := imp_E (pe_ifExp hc ha hb) fun σ H Q ⟨fr, F, ρ, n, r, n', R, e, k⟩ => by
  rcases r with z | d
  · refine R.tE e k fun b n1 F1 H1 e1 h R1 s1 => ?_
    cases b with
    | true =>
      rw [if_pos rfl]
      exact ⟨fr, F1, ρ, n1, .error z, n', R1, h, k.mono s1⟩
    | false =>
      rw [if_neg Bool.false_ne_true]
      exact ⟨fr, F1, ρ, n1, .error z, n', R1, h, k.mono s1⟩
  obtain ⟨b, n1, e1, h⟩ := M.bind_ok e
  refine ⟨fr, F, ρ, n, .ok b, n1, R, e1, fun F1 H1 R1 s1 => ?_⟩
  cases b with
  | true =>
    rw [if_pos rfl]
    exact ⟨fr, F1, ρ, n1, .ok d, n', R1, h, fun F2 H2 v R2 s2 d2 => k F2 H2 v R2 (s1.trans s2) d2⟩
  | false =>
    rw [if_neg Bool.false_ne_true]
    exact ⟨fr, F1, ρ, n1, .ok d, n', R1, h, fun F2 H2 v R2 s2 d2 => k F2 H2 v R2 (s1.trans s2) d2⟩

/-! ### subscripts -/
def dIx : D → D → Option D
  | .tup xs, .int i => atI xs i
  | .lst xs, .int i => atI xs i
  | .str z, .int i => if z.length ≤ sizeLine then (match atI z.cps.toList i with | some c => some (.str ⟨#[c]⟩) | none => none) else none
  | .scr, .int i => none
  | _, _ => none
theorem Dens.at {K : PySem.W.Frag} {dr : Option Addr} {F : Hp} {vs : List V} {ds : List D} {i : Int} {d : D} (h : Dens K W dr F vs ds) (e : atI ds i = some d) : ∃ v, atI vs i = some v ∧ Den K W dr F v d := by
  unfold atI at e ⊢
  rw [h.length]
  cases q : ixN ds.length i with
  | none => rw [q] at e; cases e
  | some j =>
    rw [q] at e
    exact h.get e
theorem q_ix {K : PySem.W.Frag} : Op2 K W (rIx K) dIx := by
  intro fr F H σ ρ n x y d v u Q R dx dy h k
  unfold dIx at h
  split at h
  · cases dx with
    | tup h1 h2 =>
      cases dy
      obtain ⟨w, e1, e2⟩ := h2.at h
      exact .inr (.inl ⟨_, _, _, w, rfl, rfl, R.core.sub.sqT h1, e1, k F H w R (Sub.refl _) e2⟩)
  · cases dx with
    | lst h1 h2 =>
      cases dy
      obtain ⟨w, e1, e2⟩ := h2.at h
      exact .inl ⟨_, _, _, w, rfl, rfl, SqL.of (R.core.sub _ _ h1), e1, k F H w R (Sub.refl _) e2⟩
  · cases dx; cases dy
    split at h
    · split at h
      · cases h
        exact .inr (.inr ⟨_, _, _, rfl, rfl, ‹_›, ‹_›, k F H _ R (Sub.refl _) (.str _)⟩)
      · cases h
    · cases h
  · cases h
  · cases h
theorem d_ix {a b : Expr} {fa fb : EX} {pos : Pos} (ha : PD X W a fa) (hb : PD X W b fb) (hs : PlainIx b := by exact fun _ _ => rfl) : PD X W (.Subscript a b pos) (e2 dIx fa fb) := imp_E (pe_ix ix_seq ha hb hs) fun _ _ _ h => d_tOp q_ix h

/-! ### slices a[lo:hi] -/
abbrev EO := Env → M (Option Int)
def oNone : EO := fun _ => M.pure none
def oSome (f : EX) : EO := fun ρ => M.bind (f ρ) fun d => M.opt (match d with | .int i => some (some i) | _ => none)
def tOD (X : Cx) (W : Wd) (f : EO) : TO := fun σ H Q => ∃ fr F ρ n r n', Rel X.K W fr F H σ ρ n ∧ f ρ n = some (r, n') ∧ Res (fun o => ∀ F' H', Rel X.K W fr F' H' σ ρ n' → Sub F F' → Q o H') (KX X W fr F σ ρ n') r
theorem imp_O {e : Option Expr} {t t' : TO} (h : PO X e t) (k : ∀ σ H Q, t' σ H Q → t σ H Q) : PO X e t' := ⟨fun pins s σ H Q I q => h.run pins s σ H Q I (k σ H Q q)⟩
theorem o_none : PO X none (tOD X W oNone) := imp_O po_none fun σ H Q ⟨fr, F, ρ, n, r, n', R, e, k⟩ => by
  rcases r with z | o
  · exact (M.pure_err e).elim
  obtain ⟨e6, e7⟩ := M.pure_ok e
  subst e6 e7
  exact k F H R (Sub.refl _)
theorem o_some {e : Expr} {f : EX} (h : PD X W e f) : PO X (some e) (tOD X W (oSome f)) := imp_O (po_some h) fun σ H Q ⟨fr, F, ρ, n, r, n', R, e, k⟩ => by
  rcases r with z | o
  · exact R.dE1 e k
  obtain ⟨x, n1, e1, h⟩ := M.bind_ok e
  obtain ⟨e3, e4⟩ := M.opt_ok h
  subst e4
  refine ⟨fr, F, ρ, n, .ok x, _, R, e1, fun F1 H1 v R1 s1 d1 => ?_⟩
  split at e3
  · cases e3; cases d1; exact ⟨_, rfl, k F1 H1 R1 s1⟩
  · cases e3
def cutD (xs : List D) (lo hi : Option Int) : List D := (xs.drop (HT.sIx xs.length 0 lo)).take (HT.sIx xs.length xs.length hi - HT.sIx xs.length 0 lo)
theorem Dens.cut {K : PySem.W.Frag} {dr : Option Addr} {F : Hp} {vs : List V} {ds : List D} (h : Dens K W dr F vs ds) (lo hi : Option Int) : Dens K W dr F (cutV vs lo hi) (cutD ds lo hi) := by
  unfold cutV cutD
  rw [h.length]
  exact (h.drop _).take _
def dCut (x : D) (lo hi : Option Int) : Option D := match x with
  | .tup xs => some (.tup (cutD xs lo hi))
  | .lst xs => some (.lst (cutD xs lo hi))
  | _ => none
theorem cut_whole {xs : List D} {lo hi : Option Int} (h : HT.sIx xs.length 0 lo = 0 ∧ HT.sIx xs.length xs.length hi = xs.length) : cutD xs lo hi = xs := by
  unfold cutD
  rw [h.1, h.2]
  simp
def eCut (f : EX) (lo hi : EO) : EX := fun ρ => M.bind (f ρ) fun x => M.bind (lo ρ) fun l => M.bind (hi ρ) fun h => M.opt (dCut x l h)
theorem d_cut {a : Expr} {lo hi : Option Expr} {f : EX} {l h : EO} {p2 pos : Pos} (ha : PD X W a f) (hl : PO X lo (tOD X W l)) (hh : PO X hi (tOD X W h)) : PD X W (.Subscript a (.Slice lo hi none p2) pos) (eCut f l h) := imp_E (pe_slice (sl_tupA.or sl_list) ha hl hh) fun σ H Q ⟨fr, F, ρ, n, r, n', R, e, k⟩ => by
  rcases r with z | d
  · refine R.dE e k fun x n1 F1 H1 v e1 h R1 s1 d1 => ?_
    rcases M.bind_err h with e2 | ⟨l', n2, e2, h⟩
    · exact ⟨fr, F1, ρ, n1, .error z, n', R1, e2, k.mono s1⟩
    refine ⟨fr, F1, ρ, n1, .ok l', n2, R1, e2, fun F2 H2 R2 s2 => ?_⟩
    rcases M.bind_err h with e3 | ⟨u', n3, e3, h⟩
    · exact ⟨fr, F2, ρ, n2, .error z, n', R2, e3, (k.mono s1).mono s2⟩
    · exact (M.opt_err h).elim
  obtain ⟨x, n1, e1, h⟩ := M.bind_ok e
  obtain ⟨l', n2, e2, h⟩ := M.bind_ok h
  obtain ⟨u', n3, e3, h⟩ := M.bind_ok h
  obtain ⟨e4, e5⟩ := M.opt_ok h
  subst e5
  refine ⟨fr, F, ρ, n, .ok x, _, R, e1, fun F1 H1 v R1 s1 d1 => ⟨fr, F1, ρ, _, .ok l', _, R1, e2, fun F2 H2 R2 s2 => ⟨fr, F2, ρ, _, .ok u', _, R2, e3, fun F3 H3 R3 s3 => ?_⟩⟩⟩
  have k' : ∀ F' H' w, Rel X.K W fr F' H' σ ρ _ → Sub F3 F' → Den X.K W fr.dr F' w d → Q w H' := fun F' H' w r s dd => k F' H' w r (((s1.trans s2).trans s3).trans s) dd
  have d3 := d1.mono (dr' := fr.dr) (s2.trans s3) fun _ z => z
  unfold dCut at e4
  split at e4
  · cases e4
    cases d3 with
    | tup h1 h2 =>
      refine .inl ⟨_, _, rfl, R3.core.sub.sqT h1, fun q => ?_, fun _ => put_tup R3 (h2.cut _ _) k'⟩
      have q' := q
      rw [h2.length] at q'
      exact k' F3 H3 _ R3 (Sub.refl _) (by rw [cut_whole q']; exact .tup h1 h2)
  · cases e4
    cases d3 with
    | lst h1 h2 => exact .inr ⟨_, _, rfl, SqL.of (R3.core.sub _ _ h1), put_lst R3 (h2.cut _ _) k'⟩
  · cases e4

/-! ### built-ins by values -/
/-- a built-in called -/
def CallD (K : PySem.W.Frag) (W : Wd) (r : List V → Hp → VK → Prop) (op : List D → Option D) : Prop := ∀ (fr : Fr) (F H : Hp) (σ : St) (ρ : Env) (n : Int) (xs : List D) (d : D) (vs : List V) (Q : VK), Rel K W fr F H σ ρ n → Dens K W fr.dr F vs xs → op xs = some d →
  (∀ F' H' w, Rel K W fr F' H' σ ρ n → Sub F F' → Den K W fr.dr F' w d → Q w H') → r vs H Q
def eB (op : List D → Option D) (f : EXs) : EX := fun ρ => M.bind (f ρ) fun xs => M.opt (op xs)
theorem tCB_of {r : List V → Hp → VK → Prop} {op : List D → Option D} {f : EXs} (hd : CallD X.K W r op) {σ : St} {H : Hp} {Q : VK} (h : tD X W (eB op f) σ H Q) : tCB r (tDs X W f) σ H Q := by
  obtain ⟨fr, F, ρ, n, r, n', R, e, k⟩ := h
  rcases r with z | d
  · exact R.dsE1 e k
  obtain ⟨x, n1, e1, h⟩ := M.bind_ok e
  obtain ⟨e4, e5⟩ := M.opt_ok h
  subst e5
  exact ⟨fr, F, ρ, n, .ok x, _, R, e1, fun F1 H1 vs R1 s1 d1 => hd fr F1 H1 σ ρ _ x d vs Q R1 d1 e4 fun F2 H2 w R2 s2 d2 => k F2 H2 w R2 (s1.trans s2) d2⟩
def dLen : List D → Option D
  | [.tup xs] => some (.int xs.length)
  | [.lst xs] => some (.int xs.length)
  | [.str x] => if x.length ≤ sizeLine then some (.int x.length) else none
  | _ => none
theorem q_len {K : PySem.W.Frag} : CallD K W (fun xs H Q => ∃ x n, xs = [x] ∧ LenV K x H n ∧ Q (.int n) H) dLen := by
  intro fr F H σ ρ n xs d vs Q R dx h k
  unfold dLen at h
  split at h
  · cases h
    cases dx with
    | cons h1 h2 =>
      cases h2
      cases h1 with
      | tup h3 h4 => exact ⟨_, _, rfl, .inr ⟨_, R.core.sub.sqT h3, rfl⟩, by rw [h4.length]; exact k F H _ R (Sub.refl _) (.int _)⟩
  · cases h
    cases dx with
    | cons h1 h2 =>
      cases h2
      cases h1 with
      | lst h3 h4 => exact ⟨_, _, rfl, .inl ⟨_, SqL.of (R.core.sub _ _ h3), rfl⟩, by rw [h4.length]; exact k F H _ R (Sub.refl _) (.int _)⟩
  · split at h
    · cases h
      cases dx with
      | cons h1 h2 =>
        cases h2
        cases h1
        exact ⟨_, _, rfl, ⟨‹_›, rfl⟩, k F H _ R (Sub.refl _) (.int _)⟩
    · cases h
  · cases h
end
end DL
end

section
set_option Elab.async false
set_option linter.all false
set_option autoImplicit false
set_option maxRecDepth 100000
namespace DL
open PySem PySem.Spec L2
section
variable {K : PySem.W.Frag} {W : Wd} {fr : Fr} {F F' H H' : Hp} {σ σ' : St} {ρ ρ' : Env} {n n' : Int}
/-! ### slots stored -/
theorem get_set_self {α : Type} {l : List α} {i : Nat} {a : α} (h : i < l.length) : (l.set i a)[i]? = some a := by simp [h]
theorem Rel.set (r : Rel K W fr F H σ ρ n) {i : Nat} {v : V} {d : D} (h : Den K W fr.dr F v d) : Rel K W fr F H (σ.set i (some v)) (ρ.set i (.val d)) n := by
  obtain ⟨ad, s⟩ := r.slots
  refine ⟨r.core, ad, by simp [s.len], fun j e q => ?_, fun j e q => ?_, fun j k e e' q q' => ?_⟩
  · by_cases hj : i = j
    · subst hj
      by_cases hi : i < ρ.length
      · rw [get_set_self hi] at q
        cases q
        exact ⟨v, get_set_self (by rw [s.len]; exact hi), h⟩
      · rw [List.getElem?_eq_none (by simpa using hi)] at q; cases q
    · rw [List.getElem?_set_ne hj] at q
      obtain ⟨u, h1, h2⟩ := s.val j e q
      exact ⟨u, by rw [List.getElem?_set_ne hj]; exact h1, h2⟩
  · by_cases hj : i = j
    · subst hj
      by_cases hi : i < ρ.length
      · rw [get_set_self hi] at q; cases q
      · rw [List.getElem?_eq_none (by simpa using hi)] at q; cases q
    · rw [List.getElem?_set_ne hj] at q
      obtain ⟨h1, h2⟩ := s.own j e q
      exact ⟨by rw [List.getElem?_set_ne hj]; exact h1, h2⟩
  · by_cases hj : i = j
    · subst hj
      by_cases hi : i < ρ.length
      · rw [get_set_self hi] at q; cases q
      · rw [List.getElem?_eq_none (by simpa using hi)] at q; cases q
    · by_cases hk : i = k
      · subst hk
        by_cases hi : i < ρ.length
        · rw [get_set_self hi] at q'; cases q'
        · rw [List.getElem?_eq_none (by simpa using hi)] at q'; cases q'
      · rw [List.getElem?_set_ne hj] at q
        rw [List.getElem?_set_ne hk] at q'
        exact s.inj j k e e' q q'
/-- a new object of one's own in a slot -/
theorem Rel.setOwn (r : Rel K W fr F H σ ρ n) {i : Nat} {p : Addr} {o : HO} {d : D} (hp : H p = none) (hd : isO d = false) (h : MDen K W fr.dr F (upd H p o) p d) : Rel K W fr F (upd H p o) (σ.set i (some (.ref p))) (ρ.set i (.own d)) n := by
  obtain ⟨ad, s⟩ := r.slots
  have hF := r.core.noF hp
  have kp : ∀ a u, H a = some u → upd H p o a = some u := fun a u q => by rw [upd_ne (ne_of_none q hp)]; exact q
  have old : ∀ (j : Nat) (e : D), ρ[j]? = some (.own e) → ad j ≠ p := fun j e q z => by
    obtain ⟨u, hu⟩ := (s.own j e q).2.2.2.2.1.there
    rw [z, hp] at hu; cases hu
  refine ⟨r.core.fresh' hp, fun j => if j = i then p else ad j, by simp [s.len], fun j e q => ?_, fun j e q => ?_, fun j k e e' q q' z => ?_⟩
  · by_cases hj : i = j
    · subst hj
      by_cases hi : i < ρ.length
      · rw [get_set_self hi] at q; cases q
      · rw [List.getElem?_eq_none (by simpa using hi)] at q; cases q
    · rw [List.getElem?_set_ne hj] at q
      obtain ⟨u, h1, h2⟩ := s.val j e q
      exact ⟨u, by rw [List.getElem?_set_ne hj]; exact h1, h2⟩
  · by_cases hj : i = j
    · subst hj
      by_cases hi : i < ρ.length
      · rw [get_set_self hi] at q
        cases q
        simp only [if_true]
        exact ⟨get_set_self (by rw [s.len]; exact hi), hF, r.core.ndr hp, .inl (r.core.noH0 hp), h, .inr ⟨hd, r.core.noH0 hp⟩⟩
      · rw [List.getElem?_eq_none (by simpa using hi)] at q; cases q
    · rw [List.getElem?_set_ne hj] at q
      obtain ⟨h1, h2, h3, h4, h5, h6⟩ := s.own j e q
      simp only [if_neg (Ne.symm hj)]
      exact ⟨by rw [List.getElem?_set_ne hj]; exact h1, h2, h3, h4, h5.mono (Sub.refl _) (fun u z => kp _ _ z), h6⟩
  · have len : ∀ {j : Nat} {e : D}, (ρ.set i (Sl.own d))[j]? = some (Sl.own e) → j ≠ i → ρ[j]? = some (Sl.own e) := fun {j e} q hj => by
      rw [List.getElem?_set_ne (Ne.symm hj)] at q; exact q
    by_cases hj : j = i
    · by_cases hk : k = i
      · rw [hj, hk]
      · simp only [if_pos hj, if_neg hk] at z
        exact absurd z.symm (old k e' (len q' hk))
    · by_cases hk : k = i
      · simp only [if_neg hj, if_pos hk] at z
        exact absurd z (old j e (len q hj))
      · simp only [if_neg hj, if_neg hk] at z
        exact s.inj j k e e' (len q hj) (len q' hk) z
/-- what is one's own, changed -/
theorem Rel.change (r : Rel K W fr F H σ ρ n) {i : Nat} {d d' : D} {o : HO} {ad : Nat → Addr} (s : Slots K W fr F H σ ρ ad) (hi : ρ[i]? = some (.own d)) (h : MDen K W fr.dr F (upd H (ad i) o) (ad i) d') (hd : isO d' = isO d) : Rel K W fr F (upd H (ad i) o) σ (ρ.set i (.own d')) n := by
  obtain ⟨h1, h2, h3, h4, h5, h6⟩ := s.own i d hi
  have hlt : i < ρ.length := (List.getElem?_eq_some_iff.mp hi).1
  have c := r.core
  have core : Core K W fr F (upd H (ad i) o) n := {
    sub := fun a u q => by rw [upd_ne (ne_of_none q h2)]; exact c.sub _ _ q
    base := fun a u q q2 q3 => by
      have ne : a ≠ ad i := fun z => by
        subst z
        rcases h4 with h4 | h4
        · rw [h4] at q; cases q
        · exact q3 h4
      rw [upd_ne ne]; exact c.base a u q q2 q3
    f0 := c.f0
    new := c.new
    there := fun a u q => by
      by_cases e : a = ad i
      · rw [e]; exact ⟨_, upd_same, (h.pl upd_same).1⟩
      · obtain ⟨o', z, nt⟩ := c.there a u q
        exact ⟨o', by rw [upd_ne e]; exact z, nt⟩
    draw := fun a e => by
      obtain ⟨q1, q2, q3⟩ := c.draw a e
      have ne : a ≠ ad i := fun z => h3 (by rw [← z]; exact e)
      exact ⟨q1, by rw [upd_ne ne]; exact q2, q3⟩
    ntF := c.ntF
    tabs := tabs_keep c.tabs fun a u q sd => by
      have ne : a ≠ ad i := fun z => by subst z; exact (h5.pl q).2 sd
      rw [upd_ne ne]; exact q }
  refine ⟨core, ad, by simp [s.len], fun j e q => ?_, fun j e q => ?_, fun j k e e' q q' z => ?_⟩
  · by_cases hj : i = j
    · subst hj; rw [get_set_self hlt] at q; cases q
    · rw [List.getElem?_set_ne hj] at q
      exact s.val j e q
  · by_cases hj : i = j
    · subst hj
      rw [get_set_self hlt] at q
      cases q
      exact ⟨h1, h2, h3, h4, h, by rw [hd]; exact h6⟩
    · rw [List.getElem?_set_ne hj] at q
      obtain ⟨q1, q2, q3, q4, q5, q6⟩ := s.own j e q
      refine ⟨q1, q2, q3, q4, q5.mono (Sub.refl _) fun u z => ?_, q6⟩
      have ne : ad j ≠ ad i := fun w => hj (s.inj i j d e hi q w.symm)
      rw [upd_ne ne]; exact z
  · have key : ∀ {j : Nat} {e : D}, (ρ.set i (Sl.own d'))[j]? = some (Sl.own e) → ∃ e', ρ[j]? = some (Sl.own e') := fun {j e} q => by
      by_cases hj : i = j
      · subst hj; exact ⟨_, hi⟩
      · rw [List.getElem?_set_ne hj] at q; exact ⟨_, q⟩
    obtain ⟨a, qa⟩ := key q
    obtain ⟨b, qb⟩ := key q'
    exact s.inj j k a b qa qb z
/-- one's own, given out -/
def frz (i : Nat) (ρ : Env) : Env := match ρ[i]? with
  | some (.own d) => ρ.set i (.val d)
  | _ => ρ
def HO' (K : PySem.W.Frag) (W : Wd) (H : Hp) (a : Addr) : Option HO := H a
theorem Rel.freeze (r : Rel K W fr F H σ ρ n) {i : Nat} {d : D} {ad : Nat → Addr} (s : Slots K W fr F H σ ρ ad) (hi : ρ[i]? = some (.own d)) (hx : fr.H0 (ad i) = none) : ∃ F', Sub F F' ∧ Rel K W fr F' H σ (ρ.set i (.val d)) n := by
  obtain ⟨h1, h2, h3, h4, h5, h6⟩ := s.own i d hi
  obtain ⟨o, ho⟩ := h5.there
  have hlt : i < ρ.length := (List.getElem?_eq_some_iff.mp hi).1
  have c := r.core
  have up : Sub F (upd F (ad i) o) := fun a u q => by rw [upd_ne (ne_of_none q h2)]; exact q
  have core : Core K W fr (upd F (ad i) o) H n := {
    sub := fun a u q => by
      by_cases e : a = ad i
      · rw [e, upd_same] at q; rw [e, ho]; exact q
      · rw [upd_ne e] at q; exact c.sub _ _ q
    base := c.base
    f0 := c.f0.trans up
    new := fun a u q q2 => by
      have e : a ≠ ad i := ne_of_none q hx
      rw [upd_ne e]; exact c.new a u q q2
    there := c.there
    draw := fun a e => by
      obtain ⟨q1, q2, q3⟩ := c.draw a e
      have ne : a ≠ ad i := fun z => h3 (by rw [← z]; exact e)
      exact ⟨by rw [upd_ne ne]; exact q1, q2, up.sqL q3⟩
    ntF := fun a u q => by
      by_cases e : a = ad i
      · rw [e, upd_same] at q; cases q; exact (h5.pl ho).1
      · rw [upd_ne e] at q; exact c.ntF a u q
    tabs := c.tabs }
  have den : Den K W fr.dr (upd F (ad i) o) (.ref (ad i)) d := by
    cases d with
    | lst ds => obtain ⟨vs, e, q⟩ := h5; rw [ho] at e; cases e; exact .lst upd_same (q.mono up fun _ z => z)
    | dic ks ds => obtain ⟨vs, l, e, q⟩ := h5; rw [ho] at e; cases e; exact .dic l (.inl upd_same) (q.mono up fun _ z => z)
    | dit ks ds => obtain ⟨vs, l, e, q⟩ := h5; rw [ho] at e; cases e; exact .dit l (.inl upd_same) (q.mono up fun _ z => z)
    | obj c ks ds => obtain ⟨dx, vs, l, e, q⟩ := h5; rw [ho] at e; cases e; exact .obj l upd_same (q.mono up fun _ z => z)
    | non => exact h5.elim
    | bl _ => exact h5.elim
    | int _ => exact h5.elim
    | str _ => exact h5.elim
    | tup _ => exact h5.elim
    | drw => exact h5.elim
    | scr => exact h5.elim
  refine ⟨_, up, core, ad, by simp [s.len], fun j e q => ?_, fun j e q => ?_, fun j k e e' q q' z => ?_⟩
  · by_cases hj : i = j
    · subst hj; rw [get_set_self hlt] at q; cases q
      exact ⟨_, h1, den⟩
    · rw [List.getElem?_set_ne hj] at q
      obtain ⟨v, q1, q2⟩ := s.val j e q
      exact ⟨v, q1, q2.mono up fun _ z => z⟩
  · by_cases hj : i = j
    · subst hj; rw [get_set_self hlt] at q; cases q
    · rw [List.getElem?_set_ne hj] at q
      obtain ⟨q1, q2, q3, q4, q5, q6⟩ := s.own j e q
      have ne : ad j ≠ ad i := fun w => hj (s.inj i j d e hi q w.symm)
      exact ⟨q1, by rw [upd_ne ne]; exact q2, q3, q4, q5.mono up fun _ z => z, q6⟩
  · by_cases hj : i = j
    · subst hj; rw [get_set_self hlt] at q; cases q
    · by_cases hk : i = k
      · subst hk; rw [get_set_self hlt] at q'; cases q'
      · rw [List.getElem?_set_ne hj] at q
        rw [List.getElem?_set_ne hk] at q'
        exact s.inj j k e e' q q' z
end

/-! ### targets -/
abbrev GX := D → Env → Option Env
abbrev GXs := List D → Env → Option Env
def gV (i : Nat) : GX := fun d ρ => some (ρ.set i (.val d))
def gsN : GXs := fun ds ρ => match ds with | [] => some ρ | _ => none
def gsC (g : GX) (gs : GXs) : GXs := fun ds ρ => match ds with
  | [] => none
  | d :: r => (g d ρ).bind fun ρ1 => gs r ρ1
def gT (gs : GXs) : GX := fun d ρ => match d with | .tup ds => gs ds ρ | _ => none
theorem wipe_get (σ : St) (j : Nat) : ∀ vs : List Nat, (wipe σ vs)[j]? = if j ∈ vs then (if j < σ.length then some none else none) else σ[j]?
  | [] => by simp [wipe]
  | v :: vs => by
    unfold wipe
    by_cases hj : v = j
    · subst hj
      rw [if_pos List.mem_cons_self]
      by_cases hl : v < σ.length
      · rw [if_pos hl, get_set_self (by rw [wipe_length]; exact hl)]
      · rw [if_neg hl, List.getElem?_eq_none (by rw [List.length_set, wipe_length]; omega)]
    · rw [List.getElem?_set_ne hj, wipe_get σ j vs]
      have : (j ∈ v :: vs) = (j ∈ vs) := by simp [Ne.symm hj]
      simp only [this]
/-- the slots is alone have changed -/
def Wip (is : List Nat) (σ σ' : St) : Prop := ∀ vs : List Nat, (∀ i ∈ is, i ∈ vs) → wipe σ' vs = wipe σ vs
theorem Wip.refl (is : List Nat) (σ : St) : Wip is σ σ := fun _ _ => rfl
theorem Wip.trans {is : List Nat} {σ σ1 σ2 : St} (a : Wip is σ σ1) (b : Wip is σ1 σ2) : Wip is σ σ2 := fun vs h => (b vs h).trans (a vs h)
theorem Wip.mono {is js : List Nat} {σ σ1 : St} (a : Wip is σ σ1) (h : ∀ i ∈ is, i ∈ js) : Wip js σ σ1 := fun vs k => a vs fun i hi => k i (h i hi)
theorem Wip.set (σ : St) (i : Nat) (x : Option V) : Wip [i] σ (σ.set i x) := fun vs h => by
  have hi : i ∈ vs := h i (by simp)
  apply List.ext_getElem?
  intro j
  rw [wipe_get, wipe_get, List.length_set]
  by_cases hj : j ∈ vs
  · rw [if_pos hj, if_pos hj]
  · rw [if_neg hj, if_neg hj, List.getElem?_set_ne (fun e => hj (by rw [← e]; exact hi))]
theorem wipe_wipe (σ : St) (vs : List Nat) : wipe (wipe σ vs) vs = wipe σ vs := by
  apply List.ext_getElem?
  intro j
  rw [wipe_get, wipe_get, wipe_length]
  by_cases hj : j ∈ vs
  · rw [if_pos hj, if_pos hj]
  · rw [if_neg hj, if_neg hj]
/-- a target over data -/
def GOk (K : PySem.W.Frag) (W : Wd) (t : TG) (g : GX) (is : List Nat) : Prop := ∀ (fr : Fr) (F H : Hp) (σ : St) (ρ ρ' : Env) (n : Int) (v : V) (d : D) (Q : St → Hp → Prop), Rel K W fr F H σ ρ n → Den K W fr.dr F v d → g d ρ = some ρ' →
  (∀ σ', Rel K W fr F H σ' ρ' n → Wip is σ σ' → Q σ' H) → t v σ H Q
def GsOk (K : PySem.W.Frag) (W : Wd) (t : TGs) (g : GXs) (is : List Nat) : Prop := ∀ (fr : Fr) (F H : Hp) (σ : St) (ρ ρ' : Env) (n : Int) (vs : List V) (ds : List D) (Q : St → Hp → Prop), Rel K W fr F H σ ρ n → Dens K W fr.dr F vs ds → g ds ρ = some ρ' →
  (∀ σ', Rel K W fr F H σ' ρ' n → Wip is σ σ' → Q σ' H) → t vs σ H Q
section
variable {K : PySem.W.Frag} {W : Wd}
theorem q_gV (i : Nat) : GOk K W (gName i) (gV i) [i] := fun fr F H σ ρ ρ' n v d Q R hd e k => by
  cases e
  exact k _ (R.set hd) (Wip.set _ _ _)
theorem q_gsN : GsOk K W gNil gsN [] := fun fr F H σ ρ ρ' n vs ds Q R hd e k => by
  unfold gsN at e
  split at e
  · cases e; cases hd; exact ⟨rfl, k _ R (Wip.refl _ _)⟩
  · cases e
theorem q_gsC {t : TG} {u : TGs} {g : GX} {gs : GXs} {is js : List Nat} (h : GOk K W t g is) (h' : GsOk K W u gs js) : GsOk K W (gCons t u) (gsC g gs) (is ++ js) := fun fr F H σ ρ ρ' n vs ds Q R hd e k => by
  unfold gsC at e
  split at e
  · cases e
  · cases hd with
    | cons h1 h2 =>
      cases q : g _ ρ with
      | none => rw [q] at e; cases e
      | some ρ1 =>
        rw [q] at e
        exact ⟨_, _, rfl, h fr F H σ ρ ρ1 n _ _ _ R h1 q fun σ' R' w1 => h' fr F H σ' ρ1 ρ' n _ _ Q R' h2 e fun σ2 R2 w2 => k σ2 R2 ((w1.mono fun i hi => List.mem_append_left _ hi).trans (w2.mono fun i hi => List.mem_append_right _ hi))⟩
theorem gs_len {g : GXs} : True := trivial
/-- how many targets -/
def GLen (g : GXs) (m : Nat) : Prop := ∀ ds ρ ρ', g ds ρ = some ρ' → ds.length = m
theorem gl_N : GLen gsN 0 := fun ds ρ ρ' e => by
  unfold gsN at e
  split at e
  · rfl
  · cases e
theorem gl_C {g : GX} {gs : GXs} {m : Nat} (h : GLen gs m) : GLen (gsC g gs) (m + 1) := fun ds ρ ρ' e => by
  unfold gsC at e
  split at e
  · cases e
  · cases q : g _ ρ with
    | none => rw [q] at e; cases e
    | some ρ1 =>
      rw [q] at e
      simp [h _ _ _ e]
theorem q_gT {u : TGs} {gs : GXs} {m : Nat} {is : List Nat} (h : GsOk K W u gs is) (l : GLen gs m) : GOk K W (gTup K m u) (gT gs) is := fun fr F H σ ρ ρ' n v d Q R hd e k => by
  unfold gT at e
  split at e
  · cases hd with
    | tup h1 h2 => exact ⟨_, _, rfl, R.core.sub.sqT h1, by rw [h2.length]; exact l _ _ _ e, h fr F H σ ρ ρ' n _ _ Q R h2 e k⟩
  · cases e
end

/-! ### statements -/
section
variable {X : Cx} {W : Wd}
def sNx : SX := fun ρ => M.pure (.nx ρ)
def sBk : SX := fun ρ => M.pure (.bk ρ)
def sCt : SX := fun ρ => M.pure (.ct ρ)
def sSeq (g h : SX) : SX := fun ρ => M.bind (g ρ) fun o => match o with
  | .nx ρ' => h ρ'
  | .bk ρ' => M.pure (.bk ρ')
  | .ct ρ' => M.pure (.ct ρ')
  | .ret d => M.pure (.ret d)
def sRet (f : EX) : SX := fun ρ => M.bind (f ρ) fun d => M.pure (.ret d)
def sRetN : SX := fun ρ => M.pure (.ret .non)
def sExp (f : EX) : SX := fun ρ => M.bind (f ρ) fun _ => M.pure (.nx ρ)
def sAsg (g : GX) (f : EX) : SX := fun ρ => M.bind (f ρ) fun d => M.bind (M.opt (g d ρ)) fun ρ' => M.pure (.nx ρ')
def sIf (t : TX) (g h : SX) : SX := fun ρ => M.bind (t ρ) fun b => match b with | true => g ρ | false => h ρ
def sNo : SX := fun _ => M.opt none
theorem S_nil : PDSs X W [] sNx := imp_Ss pss_nil fun E σ H ⟨fr, F, ρ, n, r, n', R, e, k⟩ => by
  rcases r with z | o
  · exact (M.pure_err e).elim
  obtain ⟨h1, h2⟩ := M.pure_ok e
  subst h1 h2
  exact k F H σ R (Sub.refl _)
theorem S_pass {pos : Pos} : PDS X W (.Pass pos) sNx := imp_S ps_pass fun E σ H ⟨fr, F, ρ, n, r, n', R, e, k⟩ => by
  rcases r with z | o
  · exact (M.pure_err e).elim
  obtain ⟨h1, h2⟩ := M.pure_ok e
  subst h1 h2
  exact k F H σ R (Sub.refl _)
theorem S_break {pos : Pos} : PDS X W (.Break pos) sBk := imp_S ps_break fun E σ H ⟨fr, F, ρ, n, r, n', R, e, k⟩ => by
  rcases r with z | o
  · exact (M.pure_err e).elim
  obtain ⟨h1, h2⟩ := M.pure_ok e
  subst h1 h2
  exact k F H σ R (Sub.refl _)
theorem S_cont {pos : Pos} : PDS X W (.Continue pos) sCt := imp_S ps_continue fun E σ H ⟨fr, F, ρ, n, r, n', R, e, k⟩ => by
  rcases r with z | o
  · exact (M.pure_err e).elim
  obtain ⟨h1, h2⟩ := M.pure_ok e
  subst h1 h2
  exact k F H σ R (Sub.refl _)
/-- a statement that is not reached -/
theorem S_no {st : Stmt} : PDS X W st sNo := imp_S ps_never fun E σ H ⟨fr, F, ρ, n, r, n', R, e, k⟩ => by
  rcases r with z | o
  · exact (M.opt_err e).elim
  obtain ⟨h1, h2⟩ := M.opt_ok e
  cases h1
theorem S_one {st : Stmt} {g : SX} (h : PDS X W st g) : PDSs X W [st] g := pss_one h
theorem S_cons {st : Stmt} {r : List Stmt} {g h : SX} (hg : PDS X W st g) (hh : PDSs X W r h) : PDSs X W (st :: r) (sSeq g h) := imp_Ss (pss_cons hg hh) fun E σ H ⟨fr, F, ρ, n, r, n', R, e, k⟩ => by
  rcases r with z | o
  · refine R.sE e k fun o1 n1 e1 h => ?_
    cases o1 with
    | nx ρ1 => exact fun F1 H1 σ1 R1 s1 => ⟨fr, F1, ρ1, n1, .error z, n', R1, h, KS.mono k s1⟩
    | bk ρ1 => exact (M.pure_err h).elim
    | ct ρ1 => exact (M.pure_err h).elim
    | ret d => exact (M.pure_err h).elim
  obtain ⟨o1, n1, e1, h⟩ := M.bind_ok e
  refine ⟨fr, F, ρ, n, .ok o1, n1, R, e1, ?_⟩
  cases o1 with
  | nx ρ1 => exact fun F1 H1 σ1 R1 s1 => ⟨fr, F1, ρ1, n1, .ok o, n', R1, h, k.mono s1⟩
  | bk ρ1 =>
    obtain ⟨h1, h2⟩ := M.pure_ok h
    subst h1 h2
    exact k
  | ct ρ1 =>
    obtain ⟨h1, h2⟩ := M.pure_ok h
    subst h1 h2
    exact k
  | ret d =>
    obtain ⟨h1, h2⟩ := M.pure_ok h
    subst h1 h2
    exact k
theorem S_ret {e : Expr} {f : EX} {pos : Pos} (he : PD X W e f) : PDS X W (.Return (some e) pos) (sRet f) := imp_S (ps_ret he) fun E σ H ⟨fr, F, ρ, n, r, n', R, e, k⟩ => by
  rcases r with z | o
  · exact R.dE e (KS.x k) fun _ _ _ _ _ _ h _ _ _ => (M.pure_err h).elim
  obtain ⟨x, n1, e1, h⟩ := M.bind_ok e
  obtain ⟨h1, h2⟩ := M.pure_ok h
  subst h1 h2
  exact ⟨fr, F, ρ, n, .ok x, _, R, e1, fun F1 H1 v R1 s1 d1 => k F1 H1 v R1.core s1 d1⟩
theorem S_retN {pos : Pos} : PDS X W (.Return none pos) sRetN := imp_S ps_retN fun E σ H ⟨fr, F, ρ, n, r, n', R, e, k⟩ => by
  rcases r with z | o
  · exact (M.pure_err e).elim
  obtain ⟨h1, h2⟩ := M.pure_ok e
  subst h1 h2
  exact k F H _ R.core (Sub.refl _) .non
theorem S_exp {e : Expr} {f : EX} {pos : Pos} (he : PD X W e f) (hs : swapsWith e none pos.line X.env = pure false := by rfl) : PDS X W (.Expr e pos) (sExp f) := imp_S (ps_expr he hs) fun E σ H ⟨fr, F, ρ, n, r, n', R, e, k⟩ => by
  rcases r with z | o
  · exact R.dE e (KS.x k) fun _ _ _ _ _ _ h _ _ _ => (M.pure_err h).elim
  obtain ⟨x, n1, e1, h⟩ := M.bind_ok e
  obtain ⟨h1, h2⟩ := M.pure_ok h
  subst h1 h2
  exact ⟨fr, F, ρ, n, .ok x, _, R, e1, fun F1 H1 v R1 s1 d1 => k F1 H1 σ R1 s1⟩
theorem S_asg {tg e : Expr} {f : EX} {t : TG} {g : GX} {pos : Pos} (he : PD X W e f) (ht : PG X tg t) {is : List Nat} (hg : GOk X.K W t g is) (hs : swapsWithSole [tg] e pos.line X.env = pure false := by rfl) (hw : swappedStores [tg] e X.env = pure none := by rfl)
    (h1 : (assignEach [tg] X.env).map (·.2) = [assign tg X.env] := by rfl) : PDS X W (.Assign [tg] e pos) (sAsg g f) := imp_S (ps_asg he ht hs hw h1) fun E σ H ⟨fr, F, ρ, n, r, n', R, e, k⟩ => by
  rcases r with z | o
  · refine R.dE e (KS.x k) fun _ _ _ _ _ _ h _ _ _ => ?_
    rcases M.bind_err h with h | ⟨_, _, _, h⟩
    · exact (M.opt_err h).elim
    · exact (M.pure_err h).elim
  obtain ⟨x, n1, e1, ha⟩ := M.bind_ok e
  obtain ⟨ρ', n2, e2, h⟩ := M.bind_ok ha
  obtain ⟨h1, h2⟩ := M.pure_ok h
  obtain ⟨h3, h4⟩ := M.opt_ok e2
  clear ha h
  subst h4
  subst h1 h2
  exact ⟨fr, F, ρ, n, .ok x, _, R, e1, fun F1 H1 v R1 s1 d1 => hg fr F1 H1 σ ρ ρ' _ v x _ R1 d1 h3 fun σ' R' _ => k F1 H1 σ' R' s1⟩
theorem S_if {c : Expr} {a b : List Stmt} {t : TX} {g h : SX} {pos : Pos} (hc : PDT X W c t) (ha : PDSs X W a g) (hb : PDSs X W b h) : PDS X W (.If c a b pos) (sIf t g h) := imp_S (ps_if hc ha hb) fun E σ H ⟨fr, F, ρ, n, r, n', R, e, k⟩ => by
  rcases r with z | o
  · refine R.tE e (KS.x k) fun b n1 F1 H1 e1 h R1 s1 => ?_
    cases b with
    | true =>
      rw [if_pos rfl]
      exact ⟨fr, F1, ρ, n1, .error z, n', R1, h, KS.mono k s1⟩
    | false =>
      rw [if_neg Bool.false_ne_true]
      exact ⟨fr, F1, ρ, n1, .error z, n', R1, h, KS.mono k s1⟩
  obtain ⟨b, n1, e1, h⟩ := M.bind_ok e
  refine ⟨fr, F, ρ, n, .ok b, n1, R, e1, fun F1 H1 R1 s1 => ?_⟩
  cases b with
  | true =>
    rw [if_pos rfl]
    exact ⟨fr, F1, ρ, n1, .ok o, n', R1, h, k.mono s1⟩
  | false =>
    rw [if_neg Bool.false_ne_true]
    exact ⟨fr, F1, ρ, n1, .ok o, n', R1, h, k.mono s1⟩
/-- a, b = x, y and a, b, c = x, y, z, all plain locals -/
def sPar (is : List Nat) (f : EXs) : SX := fun ρ => M.bind (f ρ) fun ds => if ds.length = is.length then M.pure (.nx ((is.zip ds).foldl (fun r p => r.set p.1 (.val p.2)) ρ)) else M.opt none
theorem S_par2 {i j : Nat} {x y : Str} {a b : Expr} {f : EXs} {px py pt pos : Pos} {kt k2 pt2} (h : PS X (.Assign [.Tuple [.Name x px, .Name y py] kt pt] (.Tuple [a, b] k2 pt2) pos) (tPar i j (tDs X W f))) : PDS X W (.Assign [.Tuple [.Name x px, .Name y py] kt pt] (.Tuple [a, b] k2 pt2) pos) (sPar [i, j] f) := imp_S h fun E σ H ⟨fr, F, ρ, n, r, n', R, e, k⟩ => by
  rcases r with z | o
  · refine R.dsE e (KS.x k) fun _ _ _ _ _ _ h _ _ _ => ?_
    split at h
    · exact (M.pure_err h).elim
    · exact (M.opt_err h).elim
  obtain ⟨ds, n1, e1, h⟩ := M.bind_ok e
  refine ⟨fr, F, ρ, n, .ok ds, n1, R, e1, fun F1 H1 vs R1 s1 d1 => ?_⟩
  split at h
  · obtain ⟨h1, h2⟩ := M.pure_ok h
    subst h1 h2
    cases d1 with
    | nil => simp at *
    | cons q1 d2 =>
      cases d2 with
      | nil => simp at *
      | cons q2 d3 =>
        cases d3 with
        | cons _ _ => simp at *
        | nil => exact ⟨_, _, rfl, k F1 H1 _ ((R1.set q1).set q2) s1⟩
  · cases (M.opt_ok h).1
theorem S_par3 {i j l : Nat} {x y z : Str} {a b c : Expr} {f : EXs} {px py pz pt pos : Pos} {kt k2 pt2} (h : PS X (.Assign [.Tuple [.Name x px, .Name y py, .Name z pz] kt pt] (.Tuple [a, b, c] k2 pt2) pos) (tPar3 i j l (tDs X W f))) : PDS X W (.Assign [.Tuple [.Name x px, .Name y py, .Name z pz] kt pt] (.Tuple [a, b, c] k2 pt2) pos) (sPar [i, j, l] f) := imp_S h fun E σ H ⟨fr, F, ρ, n, r, n', R, e, k⟩ => by
  rcases r with z | o
  · refine R.dsE e (KS.x k) fun _ _ _ _ _ _ h _ _ _ => ?_
    split at h
    · exact (M.pure_err h).elim
    · exact (M.opt_err h).elim
  obtain ⟨ds, n1, e1, h⟩ := M.bind_ok e
  refine ⟨fr, F, ρ, n, .ok ds, n1, R, e1, fun F1 H1 vs R1 s1 d1 => ?_⟩
  split at h
  · obtain ⟨h1, h2⟩ := M.pure_ok h
    subst h1 h2
    cases d1 with
    | nil => simp at *
    | cons q1 d2 =>
      cases d2 with
      | nil => simp at *
      | cons q2 d3 =>
        cases d3 with
        | nil => simp at *
        | cons q3 d4 =>
          cases d4 with
          | cons _ _ => simp at *
          | nil => exact ⟨_, _, _, rfl, k F1 H1 _ (((R1.set q1).set q2).set q3) s1⟩
  · cases (M.opt_ok h).1
end

/-! ### loops -/
section
variable {X : Cx} {W : Wd}
/-- an iterator that hands on ds -/
def ItOk (K : PySem.W.Frag) (W : Wd) (dr : Option Addr) (F0 : Hp) (J : It) (ds : List D) : Prop := ∀ (fr : Fr) (F H : Hp) (σ : St) (ρ : Env) (n : Int) (i : Nat), fr.dr = dr → Rel K W fr F H σ ρ n → Sub F0 F →
  (∀ d, ds[i]? = some d → J.go i H ∧ ∀ x H', J.yld i H x H' → ∃ F', Rel K W fr F' H' σ ρ n ∧ Sub F F' ∧ Den K W dr F' x d) ∧ (i = ds.length → J.stop i H)
abbrev IX := Env → M (List D)
def tI (X : Cx) (W : Wd) (f : IX) : TI := fun σ H R => ∃ fr F ρ n r n', Rel X.K W fr F H σ ρ n ∧ f ρ n = some (r, n') ∧
  Res (fun ds => ∀ F' H' J, Rel X.K W fr F' H' σ ρ n' → Sub F F' → ItOk X.K W fr.dr F' J ds → R J H') (KX X W fr F σ ρ n') r
abbrev PDI (X : Cx) (W : Wd) (tg e : Expr) (f : IX) : Prop := PI X tg e (tI X W f)
theorem imp_I {tg e : Expr} {t t' : TI} (h : PI X tg e t) (k : ∀ σ H R, t' σ H R → t σ H R) : PI X tg e t' := ⟨fun pins s σ H R I q => h.run pins s σ H R I (k σ H R q)⟩
def iSeq (K : PySem.W.Frag) (tl : TE) : TI := fun σ H R => tl σ H fun x H1 => ∃ a, x = .ref a ∧ (((∃ xs, SqL K H1 a xs) ∧ R (Itl K a) H1) ∨ ((∃ xs, SqT K H1 a xs) ∧ R (Itt K a) H1))
theorem pi_seq {tg l : Expr} {tl : TE} (hl : PE X l tl) : PI X tg l (iSeq X.K tl) := by
  refine ⟨fun pins s σ H R I h => ?_⟩
  refine thn (hl.run pins s σ H _ I h) fun v s1 ⟨x, H1, I1, r1, q1⟩ => ?_
  obtain ⟨a, e, q⟩ := q1
  subst e
  cases r1
  rcases q with ⟨⟨xs, hq⟩, q⟩ | ⟨⟨xs, hq⟩, q⟩
  · obtain ⟨its, rv, p, hz⟩ := I1.list hq
    refine wpAny_pyIter_list p.isList ?_
    refine ⟨s1.heap.objs.size, [s1.heap.objs.size], _, _, H1, rfl, I1.kept (t' := s1.toks) fun b o e => Heap.get?_push_of_some _ e, turn_list a _, ⟨_, Heap.get?_push_size _ rfl, rfl, rfl⟩, fun b hb => ?_, q⟩
    have e : b = s1.heap.objs.size := by simpa using hb
    subst e
    exact I1.fpOk (Nat.le_refl _) (I1.hok.fresh (Nat.le_refl _))
  · obtain ⟨its, rv, p, hz⟩ := I1.tuple hq
    refine wpAny_pyIter_tuple (show s1.heap.IsTuple a its.toArray from p) ?_
    refine ⟨s1.heap.objs.size, [s1.heap.objs.size], _, _, H1, rfl, I1.kept (t' := s1.toks) fun b o e => Heap.get?_push_of_some _ e, turn_tuple a _, ⟨_, Heap.get?_push_size _ rfl, rfl, rfl⟩, fun b hb => ?_, q⟩
    have e : b = s1.heap.objs.size := by simpa using hb
    subst e
    exact I1.fpOk (Nat.le_refl _) (I1.hok.fresh (Nat.le_refl _))
def dItems : D → Option (List D)
  | .tup xs => some xs
  | .lst xs => some xs
  | .scr => none
  | _ => none
def iOf (f : EX) : IX := fun ρ => M.bind (f ρ) fun d => M.opt (dItems d)
theorem it_list {K : PySem.W.Frag} {dr : Option Addr} {F0 : Hp} {a : Addr} {vs : List V} {ds : List D} (h : F0 a = some (.lst vs)) (hd : Dens K W dr F0 vs ds) : ItOk K W dr F0 (Itl K a) ds := fun fr F H σ ρ n i edr R s => by
  have hH : H a = some (.lst vs) := R.core.sub _ _ (s _ _ h)
  refine ⟨fun d e => ?_, fun e => ⟨vs, SqL.of hH, by rw [hd.length, e]; exact Nat.le_refl _⟩⟩
  obtain ⟨v, e1, e2⟩ := hd.get e
  refine ⟨⟨vs, v, SqL.of hH, e1⟩, fun x H' ⟨q1, q2⟩ => ?_⟩
  subst q1
  have := q2 vs (SqL.of hH)
  rw [e1] at this
  cases this
  exact ⟨F, R, Sub.refl _, e2.mono s fun _ z => z⟩
theorem it_tup {K : PySem.W.Frag} {dr : Option Addr} {F0 : Hp} {a : Addr} {vs : List V} {ds : List D} (h : SqT K F0 a vs) (hd : Dens K W dr F0 vs ds) : ItOk K W dr F0 (Itt K a) ds := fun fr F H σ ρ n i edr R s => by
  have hH : SqT K H a vs := R.core.sub.sqT (s.sqT h)
  refine ⟨fun d e => ?_, fun e => ⟨vs, hH, by rw [hd.length, e]; exact Nat.le_refl _⟩⟩
  obtain ⟨v, e1, e2⟩ := hd.get e
  refine ⟨⟨vs, v, hH, e1⟩, fun x H' ⟨q1, q2⟩ => ?_⟩
  subst q1
  have := q2 vs hH
  rw [e1] at this
  cases this
  exact ⟨F, R, Sub.refl _, e2.mono s fun _ z => z⟩
theorem i_of {tg l : Expr} {f : EX} (h : PD X W l f) : PDI X W tg l (iOf f) := imp_I (pi_seq h) fun σ H R ⟨fr, F, ρ, n, r, n', R0, e, k⟩ => by
  rcases r with z | ds
  · exact R0.dE1 e k
  obtain ⟨x, n1, e1, h⟩ := M.bind_ok e
  obtain ⟨h1, h2⟩ := M.opt_ok h
  subst h2
  refine ⟨fr, F, ρ, n, .ok x, _, R0, e1, fun F1 H1 v R1 s1 d1 => ?_⟩
  unfold dItems at h1
  split at h1
  · cases h1
    cases d1 with
    | tup q1 q2 => exact ⟨_, rfl, .inr ⟨⟨_, R1.core.sub.sqT q1⟩, k F1 H1 _ R1 s1 (it_tup q1 q2)⟩⟩
  · cases h1
    cases d1 with
    | lst q1 q2 => exact ⟨_, rfl, .inl ⟨⟨_, SqL.of (R1.core.sub _ _ q1)⟩, k F1 H1 _ R1 s1 (it_list q1 q2)⟩⟩
  · cases h1
  · cases h1
/-- range -/
def rngD (lo hi : Int) : List D := (List.range (hi - lo).toNat).map fun i => .int (lo + (i : Nat))
theorem it_rng {K : PySem.W.Frag} {dr : Option Addr} {F0 : Hp} {lo hi : Int} : ItOk K W dr F0 (Itr lo (hi - lo).toNat) (rngD lo hi) := fun fr F H σ ρ n i edr R s => by
  have hl : (rngD lo hi).length = (hi - lo).toNat := by simp [rngD]
  refine ⟨fun d e => ?_, fun e => by show (hi - lo).toNat ≤ i; rw [e, hl]; exact Nat.le_refl _⟩
  have hi' : i < (hi - lo).toNat := by
    have := (List.getElem?_eq_some_iff.mp e).1
    omega
  refine ⟨hi', fun x H' ⟨q1, q2⟩ => ?_⟩
  subst q1 q2
  refine ⟨F, R, Sub.refl _, ?_⟩
  have : d = .int (lo + (i : Nat)) := by
    simp [rngD, hi'] at e
    exact e.symm
  rw [this]
  exact .int _
def small62 (i : Int) : Bool := decide (-(2 ^ 62) ≤ i) && decide (i < 2 ^ 62)
theorem small62_ok {i : Int} (h : small62 i = true) : -(2 ^ 62) ≤ i ∧ i < 2 ^ 62 := by
  unfold small62 at h
  simp only [Bool.and_eq_true, decide_eq_true_eq] at h
  exact h
def dRng1 : List D → Option (List D)
  | [.int j] => if small62 j then some (rngD 0 j) else none
  | _ => none
def dRng2 : List D → Option (List D)
  | [.int i, .int j] => if small62 i && small62 j then some (rngD i j) else none
  | _ => none
def iRng1D (f : EXs) : IX := fun ρ => M.bind (f ρ) fun ds => M.opt (dRng1 ds)
def iRng2D (f : EXs) : IX := fun ρ => M.bind (f ρ) fun ds => M.opt (dRng2 ds)
theorem i_rng1 {tg a : Expr} {f : EXs} {p pos : Pos} (hg : Gl X "range") (hm : X.mg "range" = none) (ha : PDs X W [a] f) (hs : starEach [a] X.env = [(false, eval a X.env)] := by rfl) : PDI X W tg (.Call (.Name "range" p) [a] [] pos) (iRng1D f) := imp_I (pi_range1 hg hm ha hs) fun σ H R ⟨fr, F, ρ, n, r, n', R0, e, k⟩ => by
  rcases r with z | ds
  · exact R0.dsE1 e k
  obtain ⟨x, n1, e1, h⟩ := M.bind_ok e
  obtain ⟨h1, h2⟩ := M.opt_ok h
  subst h2
  refine ⟨fr, F, ρ, n, .ok x, _, R0, e1, fun F1 H1 vs R1 s1 d1 => ?_⟩
  unfold dRng1 at h1
  split at h1
  · split at h1
    · rename_i j q
      cases h1
      cases d1 with
      | cons q1 q2 =>
        cases q2; cases q1
        obtain ⟨a1, a2⟩ := small62_ok q
        refine ⟨_, rfl, a1, a2, k F1 H1 _ R1 s1 ?_⟩
        have := it_rng (K := X.K) (W := W) (dr := fr.dr) (F0 := F1) (lo := 0) (hi := j)
        rw [Int.sub_zero] at this
        exact this
    · cases h1
  · cases h1
theorem i_rng2 {tg a b : Expr} {f : EXs} {p pos : Pos} (hg : Gl X "range") (hm : X.mg "range" = none) (ha : PDs X W [a, b] f) (hs : starEach [a, b] X.env = [(false, eval a X.env), (false, eval b X.env)] := by rfl) (hs2 : starEach [b] X.env = [(false, eval b X.env)] := by rfl) : PDI X W tg (.Call (.Name "range" p) [a, b] [] pos) (iRng2D f) := imp_I (pi_range2 hg hm ha hs hs2) fun σ H R ⟨fr, F, ρ, n, r, n', R0, e, k⟩ => by
  rcases r with z | ds
  · exact R0.dsE1 e k
  obtain ⟨x, n1, e1, h⟩ := M.bind_ok e
  obtain ⟨h1, h2⟩ := M.opt_ok h
  subst h2
  refine ⟨fr, F, ρ, n, .ok x, _, R0, e1, fun F1 H1 vs R1 s1 d1 => ?_⟩
  unfold dRng2 at h1
  split at h1
  · split at h1
    · rename_i i j q
      cases h1
      rw [Bool.and_eq_true] at q
      cases d1 with
      | cons q1 q2 =>
        cases q2 with
        | cons q3 q4 =>
          cases q4; cases q1; cases q3
          obtain ⟨a1, a2⟩ := small62_ok q.1
          obtain ⟨a3, a4⟩ := small62_ok q.2
          exact ⟨_, _, rfl, ⟨a1, a2, a3, a4⟩, k F1 H1 _ R1 s1 it_rng⟩
    · cases h1
  · cases h1

/-! ### for -/
def forD (g : GX) (body : SX) : List D → SX
  | [] => fun ρ => M.pure (.nx ρ)
  | d :: ds => fun ρ => M.bind (M.opt (g d ρ)) fun ρ1 => M.bind (body ρ1) fun o => match o with
    | .nx ρ2 => forD g body ds ρ2
    | .ct ρ2 => forD g body ds ρ2
    | .bk ρ2 => M.pure (.nx ρ2)
    | .ret d => M.pure (.ret d)
def sFor (g : GX) (it : IX) (body : SX) : SX := fun ρ => M.bind (it ρ) fun ds => forD g body ds ρ
theorem S_for {tg iter : Expr} {b : List Stmt} {t : TG} {g : GX} {it : IX} {body : SX} {pos : Pos} (hp : PassesOwn (model X.prog X.w) X.A X.env X.xe) (hc : X.calm = true) (hi : PDI X W tg iter it) (ht : PG X tg t) {is : List Nat} (hg : GOk X.K W t g is) (hb : PDSs X W b body)
    (hs : ∀ x, foldedSetIterable iter X.env x = pure x := by intro _; rfl) : PDS X W (.For tg iter b [] pos) (sFor g it body) := imp_S (ps_for hp hc hi ht hb hs) fun E σ H ⟨fr, F, ρ, n, r, n', R, e, k⟩ => by
  rcases M.bind_any e with ⟨z, e1, rfl⟩ | ⟨ds, n1, e1, h⟩
  · exact ⟨fr, F, ρ, n, .error z, n', R, e1, KS.x k⟩
  refine ⟨fr, F, ρ, n, .ok ds, n1, R, e1, fun F1 H1 J R1 s1 ok => ?_⟩
  refine ⟨fun i m σ' H' => m = ds.length - i ∧ i ≤ ds.length ∧ ∃ F' ρ' n'', Rel X.K W fr F' H' σ' ρ' n'' ∧ Sub F1 F' ∧ forD g body (ds.drop i) ρ' n'' = some (r, n'), ⟨ds.length, by simp, Nat.zero_le _, F1, ρ, n1, R1, Sub.refl _, h⟩, ?_⟩
  rintro i m σ2 H2 ⟨rfl, hi, F2, ρ2, n2, R2, s2, e2⟩
  by_cases hlt : i < ds.length
  · refine .inr ?_
    rw [List.drop_eq_getElem_cons hlt] at e2
    rcases M.bind_any e2 with ⟨z, e3, rfl⟩ | ⟨ρ3, n3, e3, h3⟩
    · exact (M.opt_err e3).elim
    obtain ⟨e4, e5⟩ := M.opt_ok e3
    subst e5
    obtain ⟨g1, g2⟩ := (ok fr F2 H2 σ2 ρ2 _ i rfl R2 s2).1 ds[i] (by simp [hlt])
    refine ⟨g1, fun σ' H' => ∃ F' ρ' n'', Rel X.K W fr F' H' σ' ρ' n'' ∧ Sub F1 F' ∧ forD g body (ds.drop (i + 1)) ρ' n'' = some (r, n'), fun σ' H' ⟨F', ρ', n'', a1, a2, a3⟩ => ⟨_, by omega, rfl, hlt, F', ρ', n'', a1, a2, a3⟩, fun x H' y => ?_⟩
    obtain ⟨F3, R3, s3, d3⟩ := g2 x H' y
    refine hg fr F3 H' σ2 ρ2 ρ3 _ x _ _ R3 d3 e4 fun σ3 R4 _ => ?_
    rcases M.bind_any h3 with ⟨z, e6, rfl⟩ | ⟨o1, n4, e6, h4⟩
    · exact ⟨fr, F3, ρ3, _, .error z, n', R4, e6, KS.mono k ((s1.trans s2).trans s3)⟩
    refine ⟨fr, F3, ρ3, _, .ok o1, n4, R4, e6, ?_⟩
    cases o1 with
    | nx ρ5 => exact fun F5 H5 σ5 R5 s5 => ⟨F5, ρ5, n4, R5, (s2.trans s3).trans s5, h4⟩
    | ct ρ5 => exact fun F5 H5 σ5 R5 s5 => ⟨F5, ρ5, n4, R5, (s2.trans s3).trans s5, h4⟩
    | bk ρ5 =>
      obtain ⟨a1, a2⟩ := M.pure_any h4
      subst a1 a2
      exact fun F5 H5 σ5 R5 s5 => k F5 H5 σ5 R5 ((((s1.trans s2).trans s3)).trans s5)
    | ret d =>
      obtain ⟨a1, a2⟩ := M.pure_any h4
      subst a1 a2
      exact fun F5 H5 v c5 s5 d5 => k F5 H5 v c5 ((((s1.trans s2).trans s3)).trans s5) d5
  · have ei : i = ds.length := by omega
    refine .inl ⟨(ok fr F2 H2 σ2 ρ2 _ i rfl R2 s2).2 ei, ?_⟩
    rw [ei, List.drop_length] at e2
    obtain ⟨a1, a2⟩ := M.pure_any e2
    subst a1 a2
    exact k F2 H2 σ2 R2 (s1.trans s2)

/-! ### while, with so many turns at most -/
def whileD (t : TX) (body : SX) : Nat → SX
  | 0 => fun _ => M.opt none
  | m + 1 => fun ρ => M.bind (t ρ) fun b => match b with
    | false => M.pure (.nx ρ)
    | true => M.bind (body ρ) fun o => match o with
      | .nx ρ2 => whileD t body m ρ2
      | .ct ρ2 => whileD t body m ρ2
      | .bk ρ2 => M.pure (.nx ρ2)
      | .ret d => M.pure (.ret d)
def sWhile (m : Env → Nat) (t : TX) (body : SX) : SX := fun ρ => whileD t body (m ρ) ρ
theorem S_while {c : Expr} {b : List Stmt} {t : TX} {body : SX} {pos : Pos} (m : Env → Nat) (hp : PassesOwn (model X.prog X.w) X.A X.env X.xe) (hc : PDT X W c t) (hb : PDSs X W b body) : PDS X W (.While c b [] pos) (sWhile m t body) := imp_S (ps_while hp hc hb) fun E σ H ⟨fr, F, ρ, n, r, n', R, e, k⟩ => by
  refine ⟨fun j σ' H' => ∃ F' ρ' n'', Rel X.K W fr F' H' σ' ρ' n'' ∧ Sub F F' ∧ whileD t body j ρ' n'' = some (r, n'), ⟨m ρ, F, ρ, n, R, Sub.refl _, e⟩, ?_⟩
  rintro j σ1 H1 ⟨F1, ρ1, n1, R1, s1, e1⟩
  cases j with
  | zero =>
    rw [whileD] at e1
    obtain ⟨_, q⟩ := M.opt_any e1
    cases q
  | succ j =>
    rcases M.bind_any e1 with ⟨z, e2, rfl⟩ | ⟨bb, n2, e2, h2⟩
    · exact ⟨fr, F1, ρ1, n1, .error z, n', R1, e2, KX.mono (KS.x k) s1⟩
    refine ⟨fr, F1, ρ1, n1, .ok bb, n2, R1, e2, fun F2 H2 R2 s2 => ?_⟩
    cases bb with
    | false =>
      obtain ⟨a1, a2⟩ := M.pure_any h2
      subst a1 a2
      rw [if_neg Bool.false_ne_true]
      exact k F2 H2 σ1 R2 (s1.trans s2)
    | true =>
      rw [if_pos rfl]
      refine ⟨fun σ' H' => ∃ F' ρ' n'', Rel X.K W fr F' H' σ' ρ' n'' ∧ Sub F F' ∧ whileD t body j ρ' n'' = some (r, n'), fun σ' H' q => ⟨j, Nat.lt_succ_self _, q⟩, ?_⟩
      rcases M.bind_any h2 with ⟨z, e6, rfl⟩ | ⟨o1, n4, e6, h4⟩
      · exact ⟨fr, F2, ρ1, n2, .error z, n', R2, e6, KS.mono k (s1.trans s2)⟩
      refine ⟨fr, F2, ρ1, n2, .ok o1, n4, R2, e6, ?_⟩
      cases o1 with
      | nx ρ5 => exact fun F5 H5 σ5 R5 s5 => ⟨F5, ρ5, n4, R5, (s1.trans s2).trans s5, h4⟩
      | ct ρ5 => exact fun F5 H5 σ5 R5 s5 => ⟨F5, ρ5, n4, R5, (s1.trans s2).trans s5, h4⟩
      | bk ρ5 =>
        obtain ⟨a1, a2⟩ := M.pure_any h4
        subst a1 a2
        exact fun F5 H5 σ5 R5 s5 => k F5 H5 σ5 R5 ((s1.trans s2).trans s5)
      | ret d =>
        obtain ⟨a1, a2⟩ := M.pure_any h4
        subst a1 a2
        exact fun F5 H5 v c5 s5 d5 => k F5 H5 v c5 ((s1.trans s2).trans s5) d5

/-! ### comprehensions -/
def wipeD (ρ : Env) : List Nat → Env
  | [] => ρ
  | v :: vs => (wipeD ρ vs).set v .no
theorem wipeD_length (ρ : Env) : ∀ vs, (wipeD ρ vs).length = ρ.length
  | [] => rfl
  | v :: vs => by unfold wipeD; rw [List.length_set, wipeD_length ρ vs]
theorem Rel.wipe1 {K : PySem.W.Frag} {fr : Fr} {F H : Hp} {σ : St} {ρ : Env} {n : Int} (r : Rel K W fr F H σ ρ n) (i : Nat) : Rel K W fr F H (σ.set i none) (ρ.set i .no) n := by
  obtain ⟨ad, s⟩ := r.slots
  have nd : ∀ {j : Nat} {e : Sl}, e ≠ .no → (ρ.set i Sl.no)[j]? = some e → i ≠ j ∧ ρ[j]? = some e := fun {j e} ne q => by
    by_cases hj : i = j
    · subst hj
      by_cases hi : i < ρ.length
      · rw [get_set_self hi] at q; cases q; exact absurd rfl ne
      · rw [List.getElem?_eq_none (by simpa using hi)] at q; cases q
    · rw [List.getElem?_set_ne hj] at q; exact ⟨hj, q⟩
  refine ⟨r.core, ad, by simp [s.len], fun j e q => ?_, fun j e q => ?_, fun j k e e' q q' => ?_⟩
  · obtain ⟨hj, q⟩ := nd (by simp) q
    obtain ⟨v, h1, h2⟩ := s.val j e q
    exact ⟨v, by rw [List.getElem?_set_ne hj]; exact h1, h2⟩
  · obtain ⟨hj, q⟩ := nd (by simp) q
    obtain ⟨h1, h2⟩ := s.own j e q
    exact ⟨by rw [List.getElem?_set_ne hj]; exact h1, h2⟩
  · exact s.inj j k e e' (nd (by simp) q).2 (nd (by simp) q').2
theorem Rel.wipe {K : PySem.W.Frag} {fr : Fr} {F H : Hp} {σ : St} {ρ : Env} {n : Int} (r : Rel K W fr F H σ ρ n) : ∀ vs, Rel K W fr F H (wipe σ vs) (wipeD ρ vs) n
  | [] => r
  | v :: vs => by unfold L2.wipe wipeD; exact (Rel.wipe r vs).wipe1 v
/-- one's own, out of sight -/
def hide : Env → Env
  | [] => []
  | .own _ :: r => .no :: hide r
  | .no :: r => .no :: hide r
  | .val d :: r => .val d :: hide r
theorem hide_length : ∀ ρ : Env, (hide ρ).length = ρ.length
  | [] => rfl
  | .own _ :: r => by simp [hide, hide_length r]
  | .no :: r => by simp [hide, hide_length r]
  | .val _ :: r => by simp [hide, hide_length r]
theorem hide_get : ∀ (ρ : Env) (i : Nat) (e : Sl), (hide ρ)[i]? = some e → e ≠ .no → ρ[i]? = some e ∧ ∃ d, e = .val d
  | [], _, _, h, _ => by simp [hide] at h
  | .own d :: r, 0, e, h, ne => by simp [hide] at h; exact absurd h.symm ne
  | .no :: r, 0, e, h, ne => by simp [hide] at h; exact absurd h.symm ne
  | .val d :: r, 0, e, h, ne => by simp [hide] at h; exact ⟨by simp [h], d, h.symm⟩
  | .own d :: r, i + 1, e, h, ne => by simp [hide] at h; simpa using hide_get r i e h ne
  | .no :: r, i + 1, e, h, ne => by simp [hide] at h; simpa using hide_get r i e h ne
  | .val d :: r, i + 1, e, h, ne => by simp [hide] at h; simpa using hide_get r i e h ne
/-- a new run from here, with what is one's own out of sight -/
theorem Rel.inner {K : PySem.W.Frag} {fr : Fr} {F H : Hp} {σ : St} {ρ : Env} {n : Int} (r : Rel K W fr F H σ ρ n) : Rel K W (fr.at F H) F H σ (hide ρ) n := by
  obtain ⟨ad, s⟩ := r.slots
  refine ⟨r.core.at, ad, by rw [hide_length]; exact s.len, fun j e q => ?_, fun j e q => ?_, fun j k e e' q q' => ?_⟩
  · exact s.val j e (hide_get ρ j _ q (by simp)).1
  · obtain ⟨d, hd⟩ := (hide_get ρ j _ q (by simp)).2
    cases hd
  · obtain ⟨d, hd⟩ := (hide_get ρ j _ q (by simp)).2
    cases hd
/-- D is no one's own -/
def NoOwn (p : Addr) (σ : St) (ρ : Env) : Prop := ∀ (i : Nat) (d : D), ρ[i]? = some (Sl.own d) → σ[i]? ≠ some (some (.ref p))
theorem Rel.noOwn {K : PySem.W.Frag} {fr : Fr} {F H : Hp} {σ : St} {ρ : Env} {n : Int} (r : Rel K W fr F H σ ρ n) {p : Addr} (hp : H p = none) : NoOwn p σ ρ := fun i d e q => by
  obtain ⟨ad, s⟩ := r.slots
  obtain ⟨h1, _, _, _, h5, _⟩ := s.own i d e
  obtain ⟨o, ho⟩ := h5.there
  rw [h1] at q
  cases q
  rw [hp] at ho; cases ho
theorem Rel.other {K : PySem.W.Frag} {fr : Fr} {F H : Hp} {σ : St} {ρ : Env} {n : Int} (r : Rel K W fr F H σ ρ n) {p : Addr} {o : HO} (h1 : F p = none) (h2 : fr.H0 p = none) (h3 : fr.dr ≠ some p) (h4 : NoOwn p σ ρ) (h5 : ∀ u, H p = some u → ¬ Sd u) : Rel K W fr F (upd H p o) σ ρ n := by
  obtain ⟨ad, s⟩ := r.slots
  have c := r.core
  refine ⟨?_, ad, s.len, s.val, fun j e q => ?_, s.inj⟩
  · exact {
      sub := fun a u q => by rw [upd_ne (ne_of_none q h1)]; exact c.sub _ _ q
      base := fun a u q q2 q3 => by rw [upd_ne (ne_of_none q h2)]; exact c.base a u q q2 q3
      f0 := c.f0
      new := c.new
      there := fun a u q => by rw [upd_ne (ne_of_none q h2)]; exact c.there a u q
      draw := fun a e => by
        obtain ⟨q1, q2, q3⟩ := c.draw a e
        have ne : a ≠ p := fun z => h3 (by rw [← z]; exact e)
        exact ⟨q1, by rw [upd_ne ne]; exact q2, q3⟩
      ntF := c.ntF
      tabs := tabs_keep c.tabs fun a u q sd => by
        have ne : a ≠ p := fun z => by subst z; exact h5 u q sd
        rw [upd_ne ne]; exact q }
  · obtain ⟨q1, q2, q3, q4, q5, q6⟩ := s.own j e q
    have ne : ad j ≠ p := fun z => h4 j e q (by rw [q1, z])
    exact ⟨q1, q2, q3, q4, q5.mono (Sub.refl _) (fun u z => by rw [upd_ne ne]; exact z), q6⟩
theorem Rel.addF {K : PySem.W.Frag} {fr : Fr} {F H : Hp} {σ : St} {ρ : Env} {n : Int} (r : Rel K W fr F H σ ρ n) {p : Addr} {o : HO} (h0 : H p = some o) (h1 : F p = none) (h2 : fr.H0 p = none) (h3 : fr.dr ≠ some p) (h4 : NoOwn p σ ρ) (ho : NT o := by (intro _ h; cases h)) : Sub F (upd F p o) ∧ Rel K W fr (upd F p o) H σ ρ n := by
  obtain ⟨ad, s⟩ := r.slots
  have c := r.core
  have up : Sub F (upd F p o) := fun a u q => by rw [upd_ne (ne_of_none q h1)]; exact q
  refine ⟨up, ?_, ad, s.len, fun j e q => ?_, fun j e q => ?_, s.inj⟩
  · exact {
      sub := fun a u q => by
        by_cases e : a = p
        · rw [e, upd_same] at q; rw [e, h0]; exact q
        · rw [upd_ne e] at q; exact c.sub _ _ q
      base := c.base
      f0 := c.f0.trans up
      new := fun a u q q2 => by rw [upd_ne (ne_of_none q h2)]; exact c.new a u q q2
      there := c.there
      draw := fun a e => by
        obtain ⟨q1, q2, q3⟩ := c.draw a e
        have ne : a ≠ p := fun z => h3 (by rw [← z]; exact e)
        exact ⟨by rw [upd_ne ne]; exact q1, q2, up.sqL q3⟩
      ntF := fun a u q => by
        by_cases e : a = p
        · rw [e, upd_same] at q; cases q; exact ho
        · rw [upd_ne e] at q; exact c.ntF a u q
      tabs := c.tabs }
  · obtain ⟨v, q1, q2⟩ := s.val j e q
    exact ⟨v, q1, q2.mono up fun _ z => z⟩
  · obtain ⟨q1, q2, q3, q4, q5, q6⟩ := s.own j e q
    have ne : ad j ≠ p := fun z => h4 j e q (by rw [q1, z])
    exact ⟨q1, by rw [upd_ne ne]; exact q2, q3, q4, q5.mono up fun _ z => z, q6⟩

def compD (body : D → M (Option D)) : List D → M (List D)
  | [] => M.pure []
  | d :: ds => M.bind (body d) fun y => M.bind (compD body ds) fun ys => M.pure (match y with | some z => z :: ys | none => ys)
def compB (vs : List Nat) (g : GX) (t : TX) (f : EX) (ρ : Env) (d : D) : M (Option D) := M.bind (M.opt (g d (hide (wipeD ρ vs)))) fun ρ1 => M.bind (t ρ1) fun b => match b with
  | true => M.bind (f ρ1) fun y => M.pure (some y)
  | false => M.pure none
def eComp (vs : List Nat) (g : GX) (it : IX) (t : TX) (f : EX) : EX := fun ρ => M.bind (it ρ) fun ds => M.bind (M.calm (compD (compB vs g t f ρ) ds)) fun ys => M.opt (mkLst ys)
def tYesD : TX := fun _ => M.pure true
/-- what is not to raise -/
def tDk (K : PySem.W.Frag) (W : Wd) (f : EX) : TE := fun σ H Q => ∃ fr F ρ n d n', Rel K W fr F H σ ρ n ∧ f ρ n = some (.ok d, n') ∧
  ∀ F' H' v, Rel K W fr F' H' σ ρ n' → Sub F F' → Den K W fr.dr F' v d → Q v H'
def tTk (K : PySem.W.Frag) (W : Wd) (f : TX) : TT := fun σ H Q => ∃ fr F ρ n b n', Rel K W fr F H σ ρ n ∧ f ρ n = some (.ok b, n') ∧
  ∀ F' H', Rel K W fr F' H' σ ρ n' → Sub F F' → Q b H'
theorem dk {e : Expr} {f : EX} (h : PD X W e f) : PE X e (tDk X.K W f) := imp_E h fun σ H Q ⟨fr, F, ρ, n, d, n', R, e, k⟩ => ⟨fr, F, ρ, n, .ok d, n', R, e, k⟩
theorem tsk {es : List Expr} {f : TX} (h : PTs X es (tT X W f)) : PTs X es (tTk X.K W f) := ⟨fun pins s σ H Q I ⟨fr, F, ρ, n, d, n', R, e, k⟩ => h.run pins s σ H Q I ⟨fr, F, ρ, n, .ok d, n', R, e, k⟩⟩
theorem ts_nil : PTs X [] (tT X W tYesD) := by
  refine ⟨fun pins s σ H Q I ⟨fr, F, ρ, n, r, n', R, e, k⟩ => ?_⟩
  rcases r with z | b
  · exact (M.pure_err e).elim
  obtain ⟨h1, h2⟩ := M.pure_ok e
  subst h1 h2
  exact pts_nil.run pins s σ H Q I (k F H R (Sub.refl _))
theorem ts_one {c : Expr} {t : TX} (h : PDT X W c t) : PTs X [c] (tT X W t) := pts_one h
theorem d_tLc {vs : List Nat} {tg : TG} {g : GX} {is : List Nat} {it : IX} {t : TX} {f : EX} (hg : GOk X.K W tg g is) (hv : ∀ i ∈ is, i ∈ vs) {σ : St} {H : Hp} {Q : VK} (h : tD X W (eComp vs g it t f) σ H Q) : tLc (tI X W it) tg (tTk X.K W t) (tDk X.K W f) vs σ H Q := by
  obtain ⟨fr, F, ρ, n, r, n', R, e, k⟩ := h
  rcases r with z | d
  · rcases M.bind_err e with e1 | ⟨ds, n1, e1, h⟩
    · exact ⟨fr, F, ρ, n, .error z, n', R, e1, k⟩
    · rcases M.bind_err h with h | ⟨_, _, _, h⟩
      · exact (M.calm_err h).elim
      · exact (M.opt_err h).elim
  obtain ⟨ds, n1, e1, ha⟩ := M.bind_ok e
  obtain ⟨zs, n2, e2, hb⟩ := M.bind_ok ha
  obtain ⟨e3, e4⟩ := M.opt_ok hb
  replace e2 := M.calm_ok e2
  obtain ⟨e5, hz⟩ := mkLst_ok e3
  clear ha hb e3
  subst e4 e5
  refine ⟨fr, F, ρ, n, .ok ds, n1, R, e1, fun F1 H1 J R1 s1 ok => fun p hp => ?_⟩
  refine ⟨fun i m H' => m = ds.length - i ∧ i ≤ ds.length ∧ ∃ F' n'' acc dacc ys, Rel X.K W fr F' H' σ ρ n'' ∧ Sub F1 F' ∧ F' p = none ∧ H' p = some (.lst acc) ∧ Dens X.K W fr.dr F' acc dacc ∧ compD (compB vs g t f ρ) (ds.drop i) n'' = some (.ok ys, n') ∧ zs = dacc ++ ys,
    ⟨ds.length, by simp, Nat.zero_le _, F1, n1, [], [], zs, ?_, Sub.refl _, R1.core.noF hp, upd_same, .nil, e2, rfl⟩, ?_⟩
  · exact R1.other (R1.core.noF hp) (R1.core.noH0 hp) (R1.core.ndr hp) (R1.noOwn hp) (sd_no hp)
  have hH0 := R1.core.noH0 hp
  have hdr := R1.core.ndr hp
  have hno := R1.noOwn hp
  rintro i m H2 ⟨rfl, hi, F2, m2, acc, dacc, ys, R2, s2, f2, a2, d2, c2, q2⟩
  have RI : Rel X.K W (fr.at F2 H2) F2 H2 (wipe σ vs) (hide (wipeD ρ vs)) m2 := (R2.wipe vs).inner
  by_cases hlt : i < ds.length
  · refine .inr ?_
    rw [List.drop_eq_getElem_cons hlt] at c2
    obtain ⟨y, n3, c3, hc⟩ := M.bind_ok c2
    obtain ⟨yr, n4, c4, hd⟩ := M.bind_ok hc
    obtain ⟨c5, c6⟩ := M.pure_ok hd
    clear hc hd
    subst c6
    obtain ⟨ρ1, n5, b1, hb1⟩ := M.bind_ok c3
    obtain ⟨b2, b3⟩ := M.opt_ok b1
    obtain ⟨b, n6, b4, hb2⟩ := M.bind_ok hb1
    clear hb1 b1 c3
    subst b3
    obtain ⟨g1, g2⟩ := (ok (fr.at F2 H2) F2 H2 _ _ _ i rfl RI s2).1 ds[i] (by simp [hlt])
    refine ⟨g1, fun H' => ∃ F' n'' acc dacc ys, Rel X.K W fr F' H' σ ρ n'' ∧ Sub F1 F' ∧ F' p = none ∧ H' p = some (.lst acc) ∧ Dens X.K W fr.dr F' acc dacc ∧ compD (compB vs g t f ρ) (ds.drop (i + 1)) n'' = some (.ok ys, _) ∧ zs = dacc ++ ys, fun H' q => ⟨_, by omega, rfl, hlt, q⟩, fun x H' yl => ?_⟩
    obtain ⟨F3, R3, s3, d3⟩ := g2 x H' yl
    refine hg (fr.at F2 H2) F3 H' _ _ ρ1 _ x _ _ R3 d3 b2 fun σ3 R4 w4 => ⟨(w4 vs hv).trans (wipe_wipe σ vs), ?_⟩
    refine ⟨fr.at F2 H2, F3, ρ1, _, b, n6, R4, b4, fun F5 H5 R5 s5 => ?_⟩
    cases b with
    | true =>
      rw [if_pos rfl]
      obtain ⟨z, n7, b5, hb3⟩ := M.bind_ok hb2
      obtain ⟨b6, b7⟩ := M.pure_ok hb3
      clear hb2 hb3
      subst b6 b7
      refine ⟨fr.at F2 H2, F5, ρ1, n6, z, _, R5, b5, fun F6 H6 v R6 s6 d6 => ?_⟩
      have a6 : H6 p = some (.lst acc) := R6.core.base p _ (mask_of a2) hdr fun z => z
      have f6 : F6 p = none := R6.core.new p _ (mask_of a2) f2
      have s26 : Sub F2 F6 := R6.core.f0
      refine ⟨acc, a6, ?_, F6, _, acc ++ [v], dacc ++ [z], yr, (R2.back R6.core).other f6 hH0 hdr hno (sd_of a6), s2.trans s26, f6, upd_same, (d2.mono s26 fun _ z => z).append (.cons d6 .nil), c4, ?_⟩
      · have l1 := d2.length
        have l2 : zs.length = dacc.length + ys.length := by rw [q2, List.length_append]
        have l3 : ys.length = yr.length + 1 := by rw [← c5]; simp
        omega
      · rw [q2, ← c5]; simp
    | false =>
      rw [if_neg Bool.false_ne_true]
      obtain ⟨b6, b7⟩ := M.pure_ok hb2
      clear hb2
      subst b6 b7
      have a6 : H5 p = some (.lst acc) := R5.core.base p _ (mask_of a2) hdr fun z => z
      have f6 : F5 p = none := R5.core.new p _ (mask_of a2) f2
      have s26 : Sub F2 F5 := R5.core.f0
      exact ⟨F5, _, acc, dacc, yr, R2.back R5.core, s2.trans s26, f6, a6, d2.mono s26 fun _ z => z, c4, by rw [q2, ← c5]⟩
  · have ei : i = ds.length := by omega
    refine .inl ⟨(ok (fr.at F2 H2) F2 H2 _ _ _ i rfl RI s2).2 ei, ?_⟩
    rw [ei, List.drop_length] at c2
    obtain ⟨a1, a3⟩ := M.pure_ok c2
    subst a1 a3
    obtain ⟨u1, R7⟩ := R2.addF a2 f2 hH0 hdr hno
    exact k _ H2 _ R7 ((s1.trans s2).trans u1) (.lst upd_same (by rw [q2, List.append_nil]; exact d2.mono u1 fun _ z => z))
/-- [elt for tg in iter if ..] -/
theorem d_comp {vs : List Nat} {elt tg iter : Expr} {ifs : List Expr} {scope : Scope} {own : List (Str × Nat)} {pos : Pos} {t : TG} {g : GX} {is : List Nat} {it : IX} {tt : TX} {f : EX} (hc : X.calm = true) (hN : X.N.Nodup) (hi : PDI X W tg iter it) (ok : BlkOk X.N X.env.scope scope own)
    (hg : ∀ (s : Shared) (H : Hp) (C : Addr) (cl : List (Str × Addr)) (fp : List Addr), PG (X.blk s H scope (compEnvC scope cl C X.env) fp) tg t) (hq : GOk X.K W t g is) (hv : ∀ i ∈ is, i ∈ vs)
    (ht : ∀ (s : Shared) (H : Hp) (C : Addr) (cl : List (Str × Addr)) (fp : List Addr), PTs (X.blk s H scope (compEnvC scope cl C X.env) fp) ifs (tT (X.blk s H scope (compEnvC scope cl C X.env) fp) W tt))
    (he : ∀ (s : Shared) (H : Hp) (C : Addr) (cl : List (Str × Addr)) (fp : List Addr), PD (X.blk s H scope (compEnvC scope cl C X.env) fp) W elt f) (hs : ∀ x, foldedSetIterable iter X.env x = pure x := by intro _; rfl) (hvs : own.map (·.2) = vs := by rfl) :
    PD X W (.ListComp elt [⟨tg, iter, ifs, 0⟩] scope pos) (eComp vs g it tt f) := by
  subst hvs
  exact imp_E (pe_lc (tt := tTk X.K W tt) (te := tDk X.K W f) hc hN hi ok hg (fun s H C cl fp => tsk (ht s H C cl fp)) (fun s H C cl fp => dk (he s H C cl fp)) hs) fun _ _ _ h => d_tLc hq hv h
/-- y = [elt for ..], one line -/
theorem S_setComp {vs : List Nat} {i : Nat} {y : Str} {py : Pos} {elt tg iter : Expr} {ifs : List Expr} {scope : Scope} {own : List (Str × Nat)} {pos spos : Pos} {t : TG} {g : GX} {is : List Nat} {it : IX} {tt : TX} {f : EX} (hc : X.calm = true) (hN : X.N.Nodup) (hy : X.N[i]? = some y) (hyl : X.env.scope.names.lookup y = some .local)
    (hsw : swapsWith (.ListComp elt [⟨tg, iter, ifs, 0⟩] scope pos) (some (.Name y py)) spos.line X.env = pure true) (hi : PDI X W tg iter it) (ok : BlkOk X.N X.env.scope scope own)
    (hg : ∀ (s : Shared) (H : Hp) (C : Addr) (cl : List (Str × Addr)) (fp : List Addr), PG (X.blk s H scope (compEnvC scope cl C X.env) fp) tg t) (hq : GOk X.K W t g is) (hv : ∀ i ∈ is, i ∈ vs)
    (ht : ∀ (s : Shared) (H : Hp) (C : Addr) (cl : List (Str × Addr)) (fp : List Addr), PTs (X.blk s H scope (compEnvC scope cl C X.env) fp) ifs (tT (X.blk s H scope (compEnvC scope cl C X.env) fp) W tt))
    (he : ∀ (s : Shared) (H : Hp) (C : Addr) (cl : List (Str × Addr)) (fp : List Addr), PD (X.blk s H scope (compEnvC scope cl C X.env) fp) W elt f) (hs : ∀ x, foldedSetIterable iter X.env x = pure x := by intro _; rfl) (hvs : own.map (·.2) = vs := by rfl) :
    PDS X W (.Assign [.Name y py] (.ListComp elt [⟨tg, iter, ifs, 0⟩] scope pos) spos) (sAsg (gV i) (eComp vs g it tt f)) := by
  subst hvs
  refine imp_S (ps_setLc (tt := tTk X.K W tt) (te := tDk X.K W f) hc hN hy hyl hsw hi ok hg (fun s H C cl fp => tsk (ht s H C cl fp)) (fun s H C cl fp => dk (he s H C cl fp)) hs) fun E σ H ⟨fr, F, ρ, n, r, n', R, e, k⟩ => ?_
  rcases r with z | o
  · refine d_tLc hq hv (R.dE e (KS.x k) fun _ _ _ _ _ _ h _ _ _ => ?_)
    rcases M.bind_err h with h | ⟨_, _, _, h⟩
    · exact (M.opt_err h).elim
    · exact (M.pure_err h).elim
  obtain ⟨x, n1, e1, ha⟩ := M.bind_ok e
  obtain ⟨ρ', n2, e2, h⟩ := M.bind_ok ha
  obtain ⟨h1, h2⟩ := M.pure_ok h
  obtain ⟨h3, h4⟩ := M.opt_ok e2
  clear ha h
  subst h4
  subst h1 h2
  refine d_tLc hq hv ⟨fr, F, ρ, n, .ok x, _, R, e1, fun F1 H1 v R1 s1 d1 => ?_⟩
  cases h3
  exact k F1 H1 _ (R1.set d1) s1
end
end DL
end

section
set_option Elab.async false
set_option linter.all false
set_option autoImplicit false
set_option maxRecDepth 100000
namespace DL
open PySem PySem.Spec L2
open PyProof.Rows (envOfC)

/-! ### what a def promises -/
theorem fn_okX {P : Program} {w : World} {K : PySem.W.Frag} {mg : Str → Option Value} {base : Heap} {x qual : Str} {st : Stmt} {f : Addr} {fd : FuncData} {N ps : List Str} {k : Nat} {sp : Sp} (F : Fun K x qual st f fd) (S : FnScope N ps (defScope st)) (len : ∀ vs H Q E, sp vs H Q E → vs.length = ps.length)
    (body : ∀ (cdv : Value) (A : Around) (outer : List PySem.Env) (s : Shared) (H : Hp) (vs : List V) (Q : VK) (E : XK), Room k (A.deeper (envOfC qual (defScope st) s.heap.objs.size f cdv)) → sp vs H Q E →
      ∃ t, PSs (cxOf (L2.CX P w) P w K mg base N qual (defScope st) f cdv A outer s H E) (defBody st) t ∧ t { nx := fun _ H' => Q .non H', rt := Q } (L2.start N vs) H) : FnOk P w K mg base (L2.CX P w) (k + 1) f fd ps sp := by
  obtain ⟨oc, od, kV, doc, pm, an, cdv, ct, osl, rfl, lk, hcd⟩ := F.ex
  exact fn_of lk hcd S len fun A outer s H vs Q E hr => body cdv A outer s H vs Q E hr
/-- the code object that a def bears -/
def Cdv (fd : FuncData) (cdv : Value) : Prop := ∃ (x q : Str) (a : Arguments) (b : List Stmt) (sc : Scope) (dd kV doc pm : Value) (an : Option Addr) (ct : Value), fd = PySem.W.fnOf x q a b sc dd kV doc pm an cdv ct
theorem cdv_eq {x q : Str} {a : Arguments} {b : List Stmt} {sc : Scope} {dd kV doc pm : Value} {an : Option Addr} {c ct cdv : Value} (h : Cdv (PySem.W.fnOf x q a b sc dd kV doc pm an c ct) cdv) : cdv = c := by
  obtain ⟨x', q', a', b', sc', dd', kV', doc', pm', an', ct', e⟩ := h
  unfold PySem.W.fnOf at e
  injection e with e1 e2 e3 e4 e5 e6 e7 e8 e9 e10 e11 e12 e13 e14
  first | exact e1.symm | exact e2.symm | exact e3.symm | exact e4.symm | exact e5.symm | exact e6.symm | exact e7.symm | exact e8.symm | exact e9.symm | exact e10.symm | exact e11.symm | exact e12.symm | exact e13.symm | exact e14.symm
theorem fn_okXc {P : Program} {w : World} {K : PySem.W.Frag} {mg : Str → Option Value} {base : Heap} {x qual : Str} {st : Stmt} {f : Addr} {fd : FuncData} {N ps : List Str} {k : Nat} {sp : Sp} (F : Fun K x qual st f fd) (S : FnScope N ps (defScope st)) (len : ∀ vs H Q E, sp vs H Q E → vs.length = ps.length)
    (body : ∀ (cdv : Value), Cdv fd cdv → ∀ (A : Around) (outer : List PySem.Env) (s : Shared) (H : Hp) (vs : List V) (Q : VK) (E : XK), Room k (A.deeper (envOfC qual (defScope st) s.heap.objs.size f cdv)) → sp vs H Q E →
      ∃ t, PSs (cxOf (L2.CX P w) P w K mg base N qual (defScope st) f cdv A outer s H E) (defBody st) t ∧ t { nx := fun _ H' => Q .non H', rt := Q } (L2.start N vs) H) : FnOk P w K mg base (L2.CX P w) (k + 1) f fd ps sp := by
  obtain ⟨oc, od, kV, doc, pm, an, cdv, ct, osl, rfl, lk, hcd⟩ := F.ex
  exact fn_of lk hcd S len fun A outer s H vs Q E hr => body cdv ⟨_, _, _, _, _, _, _, _, _, _, _, rfl⟩ A outer s H vs Q E hr
abbrev FX := List D → M D
/-- what is answered, what is raised -/
def spD (K : PySem.W.Frag) (W : Wd) (f : FX) (m : Nat) : Sp := fun vs H Q E => vs.length = m ∧ ∃ fr F n ds r n', Core K W fr F H n ∧ Dens K W fr.dr F vs ds ∧ f ds n = some (r, n') ∧
  Res (fun d => ∀ F' H' v, Core K W (fr.at F H) F' H' n' → Den K W fr.dr F' v d → Q v H') (fun z => ∀ F' H' cls d, Core K W (fr.at F H) F' H' n' → XDen K W fr.dr F' H' z cls d → E cls d H') r
/-- a body as a function: N names, P parameters -/
def runD (N P : Nat) (g : SX) : FX := fun ds => M.bind (g (ds.map Sl.val ++ List.replicate (N - P) Sl.no)) fun o => match o with
  | .ret d => M.pure d
  | .nx _ => M.pure .non
  | _ => M.opt none
theorem start_rel {K : PySem.W.Frag} {W : Wd} {fr : Fr} {F H : Hp} {n : Int} {N : List Str} {P : Nat} {vs : List V} {ds : List D} (c : Core K W fr F H n) (d : Dens K W fr.dr F vs ds) (hl : vs.length = P) :
    Rel K W (fr.at F H) F H (L2.start N vs) (ds.map Sl.val ++ List.replicate (N.length - P) Sl.no) n := by
  have key : ∀ (i : Nat) (e : Sl), (ds.map Sl.val ++ List.replicate (N.length - P) Sl.no)[i]? = some e → e ≠ .no → ∃ d, ds[i]? = some d ∧ e = .val d := fun i e q ne => by
    by_cases hi : i < ds.length
    · rw [List.getElem?_append_left (by simpa using hi), List.getElem?_map] at q
      cases z : ds[i]? with
      | none => rw [z] at q; cases q
      | some d' => rw [z] at q; cases q; exact ⟨d', rfl, rfl⟩
    · rw [List.getElem?_append_right (by simpa using hi)] at q
      have := List.mem_of_getElem? q
      rw [List.mem_replicate] at this
      exact absurd this.2 ne
  refine ⟨c.at, fun _ => 0, ?_, fun i e q => ?_, fun i e q => ?_, fun i j e e' q q' => ?_⟩
  · unfold L2.start; simp [d.length, ← hl]
  · obtain ⟨d', h1, h2⟩ := key i _ q (by simp)
    cases h2
    obtain ⟨v, h3, h4⟩ := d.get h1
    refine ⟨v, ?_, h4⟩
    unfold L2.start
    have hi := (List.getElem?_eq_some_iff.mp h3).1
    rw [List.getElem?_append_left (by simpa using hi), List.getElem?_map, h3]; rfl
  · obtain ⟨d', h1, h2⟩ := key i _ q (by simp)
    cases h2
  · obtain ⟨d', h1, h2⟩ := key i _ q (by simp)
    cases h2
section
variable {P : Program} {w : World} {K : PySem.W.Frag} {mg : Str → Option Value} {base : Heap} {W : Wd}
/-- a def's body lets out what its callers take -/
theorem acc_of {X : Cx} {E : XK} {E₁ : Value → Shared → Prop} (hs : X.stack = X.env :: X.outer) (hf : X.env.frame = some X.env.locals) (hex : X.ex = [])
    (hx : X.xe = fun e s' => wpAny (model X.prog X.w) X.A (leaving X.env e) (fun _ s'' => L2.CX X.prog X.w X.outer X.H_0 X.s_0 E e s'') E₁ s') {cls : Value} {d : Option Addr} {σ : St} {H : Hp} (h : E cls d H) : Acc X cls d σ H :=
  Acc.of (takes_of hs hf hex hx) h
theorem okD {x qual : Str} {st : Stmt} {f : Addr} {fd : FuncData} {N ps : List Str} {k : Nat} {g : SX} (F : Fun K x qual st f fd) (S : FnScope N ps (defScope st))
    (body : ∀ (cdv : Value) (A : Around) (outer : List PySem.Env) (s : Shared) (H : Hp) (E : XK), Room k (A.deeper (envOfC qual (defScope st) s.heap.objs.size f cdv)) → PDSs (cxOf (L2.CX P w) P w K mg base N qual (defScope st) f cdv A outer s H E) W (defBody st) g) :
    FnOk P w K mg base (L2.CX P w) (k + 1) f fd ps (spD K W (runD N.length ps.length g) ps.length) := by
  refine fn_okX F S (fun vs H Q E h => h.1) fun cdv A outer s H vs Q E hr h => ?_
  obtain ⟨hl, fr, F0, n, ds, r, n', c, dd, e, k⟩ := h
  refine ⟨_, body cdv A outer s H E hr, ?_⟩
  rcases M.bind_any e with ⟨z, e1, rfl⟩ | ⟨o, n1, e1, h1⟩
  · exact ⟨fr.at F0 H, F0, _, n, .error z, n', start_rel c dd hl, e1, fun F' H' σ' cls d c' s' x => acc_of rfl rfl rfl rfl (k F' H' cls d c' x)⟩
  refine ⟨fr.at F0 H, F0, _, n, .ok o, n1, start_rel c dd hl, e1, ?_⟩
  cases o with
  | ret d' =>
    obtain ⟨a1, a2⟩ := M.pure_any h1
    subst a1 a2
    exact fun F' H' v c' s' d' => k F' H' v c' d'
  | nx ρ =>
    obtain ⟨a1, a2⟩ := M.pure_any h1
    subst a1 a2
    exact fun F' H' σ' R' s' => k F' H' _ R'.core .non
  | bk ρ => obtain ⟨_, q⟩ := M.opt_any h1; cases q
  | ct ρ => obtain ⟨_, q⟩ := M.opt_any h1; cases q
end

/-! ### calls -/
section
variable {X : Cx} {W : Wd} {k : Nat} {f C : Addr} {fd : FuncData} {ps : List Str} {x m : Str} {p pos apos : Pos} {e o : Expr} {es : List Expr}
def eCall (fx : FX) (fs : EXs) : EX := fun ρ => M.bind (fs ρ) fx
/-- a callee's wish about what it raises, at the slots -/
def EA (X : Cx) (σ : St) : XK := fun cls d H => Acc X cls d σ H
theorem passEA {σ : St} : PassesAt (L2.CX X.prog X.w) X σ (EA X σ) := passAt takesAcc σ
/-- a callee's end, back at the caller -/
theorem callee_back {fx : FX} {mm : Nat} {fr : Fr} {F F1 H1 : Hp} {σ : St} {ρ : Env} {n1 n' : Int} {ds : List D} {vs : List V} {r : Except Xc D} {Q : VK} (hl : ds.length = mm) (R1 : Rel X.K W fr F1 H1 σ ρ n1) (s1 : Sub F F1) (d1 : Dens X.K W fr.dr F1 vs ds) (h1 : fx ds n1 = some (r, n'))
    (k : Res (fun d => ∀ F' H' v, Rel X.K W fr F' H' σ ρ n' → Sub F F' → Den X.K W fr.dr F' v d → Q v H') (KX X W fr F σ ρ n') r) : spD X.K W fx mm vs H1 Q (EA X σ) := by
  refine ⟨by rw [d1.length]; exact hl, fr, F1, n1, ds, r, n', R1.core, d1, h1, ?_⟩
  cases r with
  | ok d => exact fun F2 H2 v c2 d2 => k F2 H2 v (R1.back c2) (s1.trans c2.f0) d2
  | error z => exact fun F2 H2 cls d c2 x => k F2 H2 cls d (R1.back c2) (s1.trans c2.f0) x
theorem tCall_of {fx : FX} {fs : EXs} {mm : Nat} (hm : ∀ ρ n ds n', fs ρ n = some (.ok ds, n') → ds.length = mm) {σ : St} {H : Hp} {Q : VK} (h : tD X W (eCall fx fs) σ H Q) : tCallS (spD X.K W fx mm) (EA X) (tDs X W fs) σ H Q := by
  obtain ⟨fr, F, ρ, n, r, n', R, e, k⟩ := h
  rcases M.bind_any e with ⟨z, e1, rfl⟩ | ⟨ds, n1, e1, h1⟩
  · exact ⟨fr, F, ρ, n, .error z, n', R, e1, k⟩
  · exact ⟨fr, F, ρ, n, .ok ds, n1, R, e1, fun F1 H1 vs R1 s1 d1 => callee_back (hm _ _ _ _ e1) R1 s1 d1 h1 k⟩
theorem al_nil (ρ : Env) (n : Int) (ds : List D) (n' : Int) (h : eNil ρ n = some (.ok ds, n')) : ds.length = 0 := by
  obtain ⟨a, b⟩ := M.pure_ok h
  subst a; rfl
theorem al_cons {g : EX} {fs : EXs} {mm : Nat} (hm : ∀ ρ n ds n', fs ρ n = some (.ok ds, n') → ds.length = mm) (ρ : Env) (n : Int) (ds : List D) (n' : Int) (h : eCons g fs ρ n = some (.ok ds, n')) : ds.length = mm + 1 := by
  obtain ⟨d, n1, e1, h1⟩ := M.bind_ok h
  obtain ⟨r, n2, e2, h2⟩ := M.bind_ok h1
  obtain ⟨a, b⟩ := M.pure_ok h2
  subst a
  simp [hm _ _ _ _ e2]
theorem d_call {fx : FX} {fs : EXs} {mm : Nat} (F : FnOk X.prog X.w X.K X.mg X.base (L2.CX X.prog X.w) k f fd ps (spD X.K W fx mm)) (hr : Room k X.A) (hg : Gl X x) (hm : X.mg x = some (.ref f)) (hk : PySem.W.keepIn X.K (.ref f) = true) (hb : Binds X.K fd ps [])
    (ha : PDs X W (e :: es) fs) (hl : ∀ ρ n ds n', fs ρ n = some (.ok ds, n') → ds.length = mm) (hdb : (x == ("__debug__" : Str)) = false := by decide) (he : starEach (e :: es) X.env = (false, eval e X.env) :: starEach es X.env := by rfl) (hpl : (backTo pos (starEach es X.env)).any (·.1) = false := by rfl) :
    PD X W (.Call (.Name x p) (e :: es) [] pos) (eCall fx fs) := imp_E (pe_callS (E := EA X) F hr hg hm hk hb (fun _ => passEA) ha hdb he hpl) fun _ _ _ h => tCall_of hl h
theorem d_call0 {fx : FX} (F : FnOk X.prog X.w X.K X.mg X.base (L2.CX X.prog X.w) k f fd ps (spD X.K W fx 0)) (hr : Room k X.A) (hg : Gl X x) (hm : X.mg x = some (.ref f)) (hk : PySem.W.keepIn X.K (.ref f) = true) (hb : Binds X.K fd ps []) (hdb : (x == ("__debug__" : Str)) = false := by decide) :
    PD X W (.Call (.Name x p) [] [] pos) (eCall fx eNil) := by
  refine ⟨fun pins s σ H Q I ⟨fr, G, ρ, n, r, n', R, e, k⟩ => wpAny_Call_Name_kw (ld_glob I hg hm ?_ hdb)⟩
  rcases M.bind_any e with ⟨z, e1, rfl⟩ | ⟨ds, n1, e1, h1⟩
  · exact (M.pure_err e1).elim
  obtain ⟨a, b⟩ := M.pure_ok e1
  subst a b
  have h : spD X.K W fx 0 [] H Q (EA X σ) := callee_back rfl R (Sub.refl _) .nil h1 k
  exact PySem.W.callWith_K0 I.kIn hk (run_fnS (us := []) F hr hb passEA I .nil h)

/-! ### built-ins called by name -/
theorem d_B {r : List V → Hp → VK → Prop} {op : List D → Option D} {id : String} {fs : EXs} (hc : CallR X (.builtin id) r) (hd : CallD X.K W r op) (hg : Gl X x) (hm : X.mg x = none) (hv : bootBuiltins x = some (.builtin id)) (ha : PDs X W (e :: es) fs) (hn : x ≠ "__name__" := by decide) (hdb : (x == ("__debug__" : Str)) = false := by decide)
    (he : starEach (e :: es) X.env = (false, eval e X.env) :: starEach es X.env := by rfl) (hpl : (backTo pos (starEach es X.env)).any (·.1) = false := by rfl) : PD X W (.Call (.Name x p) (e :: es) [] pos) (eB op fs) := imp_E (pe_callB hc hg hm hv ha hn hdb he hpl) fun _ _ _ h => tCB_of hd h
theorem d_Ty {r : List V → Hp → VK → Prop} {op : List D → Option D} {T : String} {fs : EXs} (hc : CallR X (.type T) r) (hd : CallD X.K W r op) (hg : Gl X x) (hm : X.mg x = none) (hv : bootBuiltins x = some (.type T)) (ha : PDs X W (e :: es) fs) (hn : x ≠ "__name__" := by decide) (hdb : (x == ("__debug__" : Str)) = false := by decide)
    (he : starEach (e :: es) X.env = (false, eval e X.env) :: starEach es X.env := by rfl) (hpl : (backTo pos (starEach es X.env)).any (·.1) = false := by rfl) : PD X W (.Call (.Name x p) (e :: es) [] pos) (eB op fs) := imp_E (pe_callTy hc hg hm hv ha hn hdb he hpl) fun _ _ _ h => tCB_of hd h
end
end DL
end

section
set_option Elab.async false
set_option linter.all false
set_option autoImplicit false
set_option maxRecDepth 100000
set_option maxHeartbeats 4000000
namespace DL
open PySem PySem.Spec PyProof.Rows L2
/-! ### tuple * int, any count -/
theorem tuple_mulS (l : Addr) (items : Array Value) (n : Nat) (dd : Option Addr) (sl : Array (Option Value)) (x : Int) (u : Tok) (c0 : (decide (x < -(2 ^ 63)) || decide (x ≥ 2 ^ 63)) = false) (c1 : (items.isEmpty || x == 1) = true) :
    Meets (Builtin.«tuple.__mul__» ⟨[.ref l, .int x u], []⟩) (fun _ R s => s.heap.get? l = some { cls := .type "tuple", dict := dd, data := .seq items n, slots := sl } ∧
      R (.ok (.ret (Value.ref l))) s) :=
  .of_wp fun prog w A R s h => by
    obtain ⟨hp, g, d, tk, os⟩ := s
    obtain ⟨hl, h⟩ := h
    have f1 := AutoSeq1.idx_int
    wp_walk using wpAny_loadPart' hl
    repeat (first
      | (refine wpAny_ite_false (decide_eq_false (by rw [c0]; exact Bool.false_ne_true)) ?_; wp_walk using wpAny_loadPart' hl)
      | (refine wpAny_ite_true (decide_eq_true c1) ?_; wp_walk using wpAny_loadPart' hl))
    exact ⟨_, rfl, h⟩
theorem tuple_mulN (l : Addr) (items : Array Value) (n : Nat) (dd : Option Addr) (sl : Array (Option Value)) (x : Int) (u : Tok) (c0 : (decide (x < -(2 ^ 63)) || decide (x ≥ 2 ^ 63)) = false) (c1 : (items.isEmpty || x == 1) = false) (c2 : (decide (x ≤ 0) || items.isEmpty) = true) :
    Meets (Builtin.«tuple.__mul__» ⟨[.ref l, .int x u], []⟩) (fun _ R s => s.heap.get? l = some { cls := .type "tuple", dict := dd, data := .seq items n, slots := sl } ∧
      R (.ok (.ret (Value.ref s.heap.objs.size))) { s with heap := s.heap.push { cls := Value.type "tuple", data := Data.seq #[] }, toks := s.toks }) :=
  .of_wp fun prog w A R s h => by
    obtain ⟨hp, g, d, tk, os⟩ := s
    obtain ⟨hl, h⟩ := h
    have f1 := AutoSeq1.idx_int
    wp_walk using wpAny_loadPart' hl
    repeat (first
      | (refine wpAny_ite_false (decide_eq_false (by rw [c0]; exact Bool.false_ne_true)) ?_; wp_walk using wpAny_loadPart' hl)
      | (refine wpAny_ite_false (decide_eq_false (by rw [c1]; exact Bool.false_ne_true)) ?_; wp_walk using wpAny_loadPart' hl)
      | (refine wpAny_ite_true (decide_eq_true c2) ?_; wp_walk using wpAny_loadPart' hl))
    exact ⟨_, rfl, h⟩
def rRepA (K : PySem.W.Frag) : R2 := fun x y H Q => ∃ l k xs, x = .ref l ∧ y = .int k ∧ SqT K H l xs ∧ -1000000 ≤ k ∧ k ≤ 1000000 ∧ ((xs.length : Nat) : Int) * k ≤ 1000000 ∧ (xs = [] ∨ k = 1 → Q (.ref l) H) ∧ (xs ≠ [] → k ≠ 1 → ∀ p, H p = none → Q (.ref p) (upd H p (.tup (List.replicate k.toNat xs).flatten)))
section
variable {X : Cx}
theorem op_repA : OpR X (binaryOp .Mult) (rRepA X.K) := by
  intro pins s σ H x y v u Q I rx ry h
  obtain ⟨l, k, xs, rfl, rfl, hT, h1, h2, hz, q1, q2⟩ := h
  cases rx
  obtain ⟨t, rfl⟩ := ry
  obtain ⟨its, r, ⟨⟨cls, dd, data, sl⟩, ho, hc, n, hd⟩, hs⟩ := I.tuple hT
  simp only at hc hd
  subst hc hd
  have hle : its.length = xs.length := r.length.symm
  have hsz0 : its.toArray.size = xs.length := by rw [List.size_toArray, hle]
  have c0 : (decide (k < -(2 ^ 63)) || decide (k ≥ 2 ^ 63)) = false := by
    rw [decide_eq_false (by omega), decide_eq_false (by omega)] <;> rfl
  by_cases hone : xs = [] ∨ k = 1
  · have c1 : (its.toArray.isEmpty || k == 1) = true := by
      rcases hone with e | e
      · subst e
        have : its = [] := List.eq_nil_of_length_eq_zero (by rw [hle]; rfl)
        subst this; rfl
      · subst e; simp
    refine wpAny_binaryOp_repeat_ref (T := "tuple") (U := "int") (by decide) ⟨_, ho, rfl⟩ (fun s' => typeIs_int s' k t) noFill_tuple_mul F.fills_int_mul F.slot_int_rmul repeat_tuple F.slot_int_index.lookup
      (call_meets F.slot_int_rmul (typeIs_int s k t) F.entry_int_rmul (F.args_int_rmul_2 _ _) (int_rmul_tuple k t l its.toArray n dd sl)
        ⟨ho, rfl, ⟨_, ho, rfl⟩, call_meets F.slot_tuple_mul ⟨_, ho, rfl⟩ F.entry_tuple_mul (F.args_tuple_mul_2 _ _) (tuple_mulS l its.toArray n dd sl k t c0 c1) ⟨ho, ?_⟩⟩)
    exact ⟨.ref l, H, I, rfl, q1 hone⟩
  · have hne : xs ≠ [] := fun e => hone (.inl e)
    have hk1 : k ≠ 1 := fun e => hone (.inr e)
    have hn : its ≠ [] := fun e => hne (by
      rw [e] at hle
      exact List.eq_nil_of_length_eq_zero hle.symm)
    have hi : its.toArray.isEmpty = false := by
      cases its with
      | nil => exact absurd rfl hn
      | cons a b => rfl
    have c1 : (its.toArray.isEmpty || k == 1) = false := by
      rw [hi, Bool.false_or]
      exact beq_eq_false_iff_ne.mpr (by omega)
    by_cases hk : k ≤ 0
    · have c2 : (decide (k ≤ 0) || its.toArray.isEmpty) = true := by
        rw [decide_eq_true hk]; rfl
      refine wpAny_binaryOp_repeat_ref (T := "tuple") (U := "int") (by decide) ⟨_, ho, rfl⟩ (fun s' => typeIs_int s' k t) noFill_tuple_mul F.fills_int_mul F.slot_int_rmul repeat_tuple F.slot_int_index.lookup
        (call_meets F.slot_int_rmul (typeIs_int s k t) F.entry_int_rmul (F.args_int_rmul_2 _ _) (int_rmul_tuple k t l its.toArray n dd sl)
          ⟨ho, rfl, ⟨_, ho, rfl⟩, call_meets F.slot_tuple_mul ⟨_, ho, rfl⟩ F.entry_tuple_mul (F.args_tuple_mul_2 _ _) (tuple_mulN l its.toArray n dd sl k t c0 c1 c2) ⟨ho, ?_⟩⟩)
      have e0 : (List.replicate k.toNat xs).flatten = [] := by
        have : k.toNat = 0 := by omega
        rw [this]; rfl
      have q2' := q2 hne hk1
      rw [e0] at q2'
      refine ⟨.ref s.heap.objs.size, _, I.laid (t' := s.toks) (o := .tup []) (fun b ob q => Heap.get?_push_of_some _ q) (Nat.le_refl _) ?_, rfl, q2' _ (I.hok.fresh (Nat.le_refl _))⟩
      exact ⟨Nat.zero_le _, [], .nil, IsTup.new _ _⟩
    · have c2 : (decide (k ≤ 0) || its.toArray.isEmpty) = false := by
        rw [hi, Bool.or_false]
        exact decide_eq_false (by omega)
      have hm : ((its.toArray.size : Nat) : Int) * k ≤ 1000000 := by rw [hsz0]; exact hz
      have c4 : Builtin.Tuple.tupleTooMany (((its.toArray.size : Nat) : Int) * k) = false := by
        unfold Builtin.Tuple.tupleTooMany
        rw [sizeLine_eq]
        exact decide_eq_false (by omega)
      have flen : k.toNat * xs.length ≤ 1000000 := by
        have : ((k.toNat * xs.length : Nat) : Int) ≤ 1000000 := by
          rw [Int.natCast_mul, Int.toNat_of_nonneg (by omega), Int.mul_comm]; exact hz
        omega
      refine wpAny_binaryOp_repeat_ref (T := "tuple") (U := "int") (by decide) ⟨_, ho, rfl⟩ (fun s' => typeIs_int s' k t) noFill_tuple_mul F.fills_int_mul F.slot_int_rmul repeat_tuple F.slot_int_index.lookup
        (call_meets F.slot_int_rmul (typeIs_int s k t) F.entry_int_rmul (F.args_int_rmul_2 _ _) (int_rmul_tuple k t l its.toArray n dd sl)
          ⟨ho, rfl, ⟨_, ho, rfl⟩, call_meets F.slot_tuple_mul ⟨_, ho, rfl⟩ F.entry_tuple_mul (F.args_tuple_mul_2 _ _) (tuple_mulW l its.toArray n dd sl k t c0 c1 c2 (by omega) c4 (by rw [size_rep, List.size_toArray, PyProof.Rows.lm_len_rep_flat, hle, sizeLine_eq]; omega)) ⟨ho, ?_⟩⟩)
      rw [size_rep]
      refine ⟨.ref s.heap.objs.size, _, I.laid (t' := s.toks) (o := .tup (List.replicate k.toNat xs).flatten) (fun b ob q => Heap.get?_push_of_some _ q) (Nat.le_refl _) ?_, rfl, q2 hne hk1 _ (I.hok.fresh (Nat.le_refl _))⟩
      exact ⟨by rw [PyProof.Rows.lm_len_rep_flat, sizeLine_eq]; omega, _, r.rep k.toNat, IsTup.new _ _⟩
end
end DL
end

section
set_option Elab.async false
set_option linter.all false
set_option autoImplicit false
set_option maxRecDepth 100000
set_option maxHeartbeats 1000000
namespace DL
open PySem PySem.Spec L2
open PyProof.Rows (envOfC)
section
variable {X : Cx} {W : Wd}
/-! ### products -/
def dMul : D → D → Option D
  | .int a, .int b => if small64 a || small64 b then some (.int (a * b)) else none
  | .tup xs, .int k => if decide (-1000000 ≤ k) && decide (k ≤ 1000000) && decide (((xs.length : Nat) : Int) * k ≤ 1000000) then some (.tup (List.replicate k.toNat xs).flatten) else none
  | _, _ => none
theorem d_mul {a b : Expr} {fa fb : EX} {pos : Pos} (ha : PD X W a fa) (hb : PD X W b fb) : PD X W (.BinOp a .Mult b pos) (e2 dMul fa fb) := d_op (op_mul.or op_repA) (by
  intro fr F H σ ρ n x y d v u Q R dx dy h k
  unfold dMul at h
  split at h
  · split at h
    · rename_i q
      rw [Bool.or_eq_true] at q
      cases dx; cases dy; cases h
      exact .inl ⟨_, _, rfl, rfl, q.imp small64_ok small64_ok, k F H _ R (Sub.refl _) (.int _)⟩
    · cases h
  · split at h
    · rename_i xs kk q
      simp only [Bool.and_eq_true, decide_eq_true_eq] at q
      cases dx with
      | tup h1 h2 =>
        cases dy; cases h
        refine .inr ⟨_, _, _, rfl, rfl, R.core.sub.sqT h1, q.1.1, q.1.2, by rw [h2.length]; exact q.2, fun e => ?_, fun e1 e2 => put_tup R (h2.rep _) k⟩
        have : (List.replicate kk.toNat xs).flatten = xs := by
          rcases e with e | e
          · rw [(dens_ne h2).mp e]; simp
          · subst e; simp
        rw [this] at k
        exact k F H _ R (Sub.refl _) (.tup h1 h2)
    · cases h
  · cases h) ha hb

/-! ### attributes, methods, instances -/
def dFld (c : Nat) (f : Str) : D → Option D
  | .obj c' ks vs => if c' = c then (ks.zip vs).lookup f else none
  | _ => none
theorem lookup_zip {K : PySem.W.Frag} {dr : Option Addr} {F : Hp} {f : Str} {d : D} : ∀ {ks : List Str} {vs : List V} {ds : List D}, ks.length = vs.length → Dens K W dr F vs ds → (ks.zip ds).lookup f = some d → ∃ v, (ks.zip vs).lookup f = some v ∧ Den K W dr F v d
  | [], _, _, _, _, e => by simp at e
  | k :: ks, [], _, l, _, _ => by simp at l
  | k :: ks, v :: vs, _, l, .cons h r, e => by
    rw [List.zip_cons_cons, List.lookup_cons] at e
    rw [List.zip_cons_cons, List.lookup_cons]
    split at e
    · cases e
      exact ⟨v, rfl, h⟩
    · exact lookup_zip (by simpa using l) r e
theorem lookup_zip_none {f : Str} : ∀ {ks : List Str} {vs : List V} {ds : List D}, ks.length = vs.length → vs.length = ds.length → (ks.zip ds).lookup f = none → (ks.zip vs).lookup f = none
  | [], _, _, _, _, _ => by simp
  | k :: ks, [], _, l, _, _ => by simp at l
  | k :: ks, v :: vs, [], _, l, _ => by simp at l
  | k :: ks, v :: vs, d :: ds, l, l', e => by
    rw [List.zip_cons_cons, List.lookup_cons] at e
    rw [List.zip_cons_cons, List.lookup_cons]
    split at e
    · cases e
    · exact lookup_zip_none (by simpa using l) (by simpa using l') e
theorem d_fld {e : Expr} {f : Str} {fx : EX} {c : Nat} {pos : Pos} (cl : Cls X.K (W.cl c)) (na : NoAttr X.K (W.cl c) f) (he : PD X W e fx) (hb : attributeBase e f X.env (eval e X.env) = eval e X.env := by rfl) : PD X W (.Attribute e f pos) (e1 (dFld c f) fx) := imp_E (pe_fld he hb) fun σ H Q ⟨fr, F, ρ, n, r, n', R, e, k⟩ => by
  rcases r with z | d
  · exact R.dE1 e k
  obtain ⟨x, n1, h1, h⟩ := M.bind_ok e
  obtain ⟨h2, h3⟩ := M.opt_ok h
  subst h3
  refine ⟨fr, F, ρ, n, .ok x, _, R, h1, fun F1 H1 v R1 s1 d1 => ?_⟩
  unfold dFld at h2
  split at h2
  · split at h2
    · rename_i c' ks vs q
      subst q
      cases d1 with
      | obj l hF hd =>
        obtain ⟨u, e1, e2⟩ := lookup_zip l hd h2
        exact ⟨_, _, _, _, u, rfl, R1.core.sub _ _ hF, cl, na, e1, k F1 H1 u R1 s1 e2⟩
    · cases h2
  · cases h2
/-- o.m(..): o, then the others -/
def isObj (c : Nat) (m : Str) : D → Bool
  | .obj c' ks vs => decide (c' = c) && ((ks.zip vs).lookup m).isNone
  | _ => false
def eMeth (c : Nat) (m : Str) (fx : FX) (fo : EX) (fs : EXs) : EX := fun ρ => M.bind (fo ρ) fun o => if isObj c m o then M.bind (fs ρ) fun ds => fx (o :: ds) else M.opt none
/-- o.m(..) where what is raised is wished for at the slots -/
def tMethS (C : Addr) (m : Str) (sp : Sp) (E : St → XK) (ta : TE) (t : TA) : TE := fun σ H Q => ta σ H fun x H1 => ∃ a dx fs, x = .ref a ∧ H1 a = some (.ins C dx fs) ∧ fs.lookup m = none ∧ t σ H1 fun vs H2 => sp (.ref a :: vs) H2 Q (E σ)
theorem pe_methS {C : Addr} {CX : CXT} {k : Nat} {f : Addr} {fd : FuncData} {ps : List Str} {m : Str} {pos apos : Pos} {e o : Expr} {es : List Expr} {sp : Sp} {E : St → XK} {ta : TE} {t : TA} {pl : Sem Bool} (ho : PE X o ta) (cl : Cls X.K C) (hm : Meth X.K C m f)
    (F : FnOk X.prog X.w X.K X.mg X.base CX k f fd ps sp) (hr : Room k X.A) (hb : Binds X.K fd ps []) (hx : ∀ σ, PassesAt CX X σ (E σ)) (ha : PA X (e :: es) t)
    (hst : starEach (e :: es) X.env = (false, eval e X.env) :: starEach es X.env) (hpl : (backTo pos (starEach es X.env)).any (·.1) = false)
    (ht : eval (.Call (.Attribute o m apos) (e :: es) [] pos) X.env = (do
      let ov ← eval o X.env
      standAt apos.atName
      let (f, first) ← holding [ov] (getMethod ov m pl)
      callWith pos f first (backTo pos (starEach (e :: es) X.env)) (backToKw pos (keywordEach [] X.env)))) : PE X (.Call (.Attribute o m apos) (e :: es) [] pos) (tMethS C m sp E ta t) := by
  constructor
  intro pins s σ H Q I h
  refine PySem.W.methodCall_KW (pl := pl) (thn (ho.run pins s σ H _ I h) ?_) ht
  rintro u s1 ⟨x, H1, I1, rx, a, dx, fs, ex, ea, l, q⟩
  subst ex
  have eu : RelV (.ref a) (.ref a) := rfl
  have ev : u = Value.ref a := rx
  subst ev
  refine getmeth_ok I1 ea cl hm l (PySem.W.callWith_K (h₀ := X.base) (first := [.ref a]) I.ok.mod.kin hm.kp (thn (ha.run pos pins s1 σ H1 _ I1 q) ?_) hst hpl)
  rintro us s2 ⟨vs, H2, I2, r, q2⟩
  exact ⟨I2.kIn, run_fnS (us := .ref a :: us) (vs := .ref a :: vs) F hr hb (hx σ) I2 (.cons eu r) q2⟩
theorem pe_meth0S {C : Addr} {CX : CXT} {k : Nat} {f : Addr} {fd : FuncData} {ps : List Str} {m : Str} {pos apos : Pos} {o : Expr} {sp : Sp} {E : St → XK} {ta : TE} {pl : Sem Bool} (ho : PE X o ta) (cl : Cls X.K C) (hm : Meth X.K C m f)
    (F : FnOk X.prog X.w X.K X.mg X.base CX k f fd ps sp) (hr : Room k X.A) (hb : Binds X.K fd ps []) (hx : ∀ σ, PassesAt CX X σ (E σ))
    (ht : eval (.Call (.Attribute o m apos) [] [] pos) X.env = (do
      let ov ← eval o X.env
      standAt apos.atName
      let (f, first) ← holding [ov] (getMethod ov m pl)
      callWith pos f first (backTo pos (starEach [] X.env)) (backToKw pos (keywordEach [] X.env)))) : PE X (.Call (.Attribute o m apos) [] [] pos) (tMethS C m sp E ta tNil) := by
  constructor
  intro pins s σ H Q I h
  refine PySem.W.methodCall_KW (pl := pl) (thn (ho.run pins s σ H _ I h) ?_) ht
  rintro u s1 ⟨x, H1, I1, rx, a, dx, fs, ex, ea, l, q⟩
  subst ex
  have eu : RelV (.ref a) (.ref a) := rfl
  have ev : u = Value.ref a := rx
  subst ev
  refine getmeth_ok I1 ea cl hm l ?_
  have q : sp [.ref a] H1 Q (E σ) := q
  exact PySem.W.callWith_K0 (first := [.ref a]) I1.kIn hm.kp (run_fnS (us := [.ref a]) (vs := [.ref a]) F hr hb (hx σ) I1 (.cons eu .nil) q)
theorem tMeth_of {c : Nat} {m : Str} {fx : FX} {fo : EX} {fs : EXs} {mm : Nat} (hm : ∀ ρ n ds n', fs ρ n = some (.ok ds, n') → ds.length = mm) {σ : St} {H : Hp} {Q : VK} (h : tD X W (eMeth c m fx fo fs) σ H Q) :
    tMethS (W.cl c) m (spD X.K W fx (mm + 1)) (EA X) (tD X W fo) (tDs X W fs) σ H Q := by
  obtain ⟨fr, F, ρ, n, r, n', R, e, k⟩ := h
  rcases M.bind_any e with ⟨z, e1, rfl⟩ | ⟨o, n1, e1, h1⟩
  · exact ⟨fr, F, ρ, n, .error z, n', R, e1, k⟩
  refine ⟨fr, F, ρ, n, .ok o, n1, R, e1, fun F1 H1 v R1 s1 d1 => ?_⟩
  split at h1
  · rename_i q
    unfold isObj at q
    split at q
    · rw [Bool.and_eq_true, decide_eq_true_eq] at q
      obtain ⟨q1, q2⟩ := q
      subst q1
      cases d1 with
      | obj l hF hd =>
        refine ⟨_, _, _, rfl, R1.core.sub _ _ hF, lookup_zip_none l hd.length (Option.isNone_iff_eq_none.mp q2), ?_⟩
        rcases M.bind_any h1 with ⟨z, e2, rfl⟩ | ⟨ds, n2, e2, h2⟩
        · exact ⟨fr, F1, ρ, n1, .error z, n', R1, e2, KX.mono k s1⟩
        exact ⟨fr, F1, ρ, n1, .ok ds, n2, R1, e2, fun F2 H2 vs R2 s2 d2 => callee_back (F := F) (by rw [List.length_cons, hm _ _ _ _ e2]) R2 (s1.trans s2) (.cons (.obj l (s2 _ _ hF) (hd.mono s2 fun _ z => z)) d2) h2 k⟩
    · cases q
  · obtain ⟨_, q⟩ := M.opt_any h1
    cases q
theorem d_meth {k : Nat} {c : Nat} {f : Addr} {fd : FuncData} {ps : List Str} {m : Str} {pos apos : Pos} {e o : Expr} {es : List Expr} {fx : FX} {fo : EX} {fs : EXs} {mm : Nat} {pl : Sem Bool} (ho : PD X W o fo) (cl : Cls X.K (W.cl c)) (hm : Meth X.K (W.cl c) m f)
    (F : FnOk X.prog X.w X.K X.mg X.base (L2.CX X.prog X.w) k f fd ps (spD X.K W fx (mm + 1))) (hr : Room k X.A) (hb : Binds X.K fd ps []) (ha : PDs X W (e :: es) fs) (hl : ∀ ρ n ds n', fs ρ n = some (.ok ds, n') → ds.length = mm)
    (hst : starEach (e :: es) X.env = (false, eval e X.env) :: starEach es X.env := by rfl) (hpl : (backTo pos (starEach es X.env)).any (·.1) = false := by rfl)
    (ht : eval (.Call (.Attribute o m apos) (e :: es) [] pos) X.env = (do
      let ov ← eval o X.env
      standAt apos.atName
      let (f, first) ← holding [ov] (getMethod ov m pl)
      callWith pos f first (backTo pos (starEach (e :: es) X.env)) (backToKw pos (keywordEach [] X.env))) := by rfl) :
    PD X W (.Call (.Attribute o m apos) (e :: es) [] pos) (eMeth c m fx fo fs) := imp_E (pe_methS (E := EA X) ho cl hm F hr hb (fun _ => passEA) ha hst hpl ht) fun _ _ _ h => tMeth_of hl h
theorem d_meth0 {k : Nat} {c : Nat} {f : Addr} {fd : FuncData} {ps : List Str} {m : Str} {pos apos : Pos} {o : Expr} {fx : FX} {fo : EX} {pl : Sem Bool} (ho : PD X W o fo) (cl : Cls X.K (W.cl c)) (hm : Meth X.K (W.cl c) m f)
    (F : FnOk X.prog X.w X.K X.mg X.base (L2.CX X.prog X.w) k f fd ps (spD X.K W fx 1)) (hr : Room k X.A) (hb : Binds X.K fd ps [])
    (ht : eval (.Call (.Attribute o m apos) [] [] pos) X.env = (do
      let ov ← eval o X.env
      standAt apos.atName
      let (f, first) ← holding [ov] (getMethod ov m pl)
      callWith pos f first (backTo pos (starEach [] X.env)) (backToKw pos (keywordEach [] X.env))) := by rfl) :
    PD X W (.Call (.Attribute o m apos) [] [] pos) (eMeth c m fx fo eNil) := imp_E (pe_meth0S (E := EA X) ho cl hm F hr hb (fun _ => passEA) ht) fun σ H Q h => by
  obtain ⟨fr, F, ρ, n, r, n1, R, e1, k⟩ := tMeth_of al_nil h
  cases r with
  | error z => exact ⟨fr, F, ρ, n, .error z, n1, R, e1, k⟩
  | ok o =>
    refine ⟨fr, F, ρ, n, .ok o, n1, R, e1, fun F1 H1 v R1 s1 d1 => ?_⟩
    obtain ⟨a, dx, fs, q1, q2, q3, q4⟩ := k F1 H1 v R1 s1 d1
    obtain ⟨fr2, F2, ρ2, n2, r2, n3, R2, e2, k2⟩ := q4
    obtain ⟨b1, b2⟩ := M.pure_any e2
    subst b1 b2
    exact ⟨a, dx, fs, q1, q2, q3, k2 F2 H1 [] R2 (Sub.refl _) .nil⟩

/-! ### a new instance -/
/-- the promise of an __init__ that raises nothing: f: the arguments to the instance -/
def spI (K : PySem.W.Frag) (W : Wd) (f : FX) (c m : Nat) : Sp := fun vs H Q E => vs.length = m + 1 ∧ ∃ fr F n p dx us ds r n', vs = .ref p :: us ∧ H p = some (.ins (W.cl c) dx []) ∧ F p = none ∧ fr.dr ≠ some p ∧ Core K W fr F H n ∧ Dens K W fr.dr F us ds ∧ f ds n = some (r, n') ∧
  Res (fun d => isO d = true ∧ ∀ F' H', Core K W ⟨fr.dr, fr.sa, mask H, F, fun a => a = p⟩ F' H' n' → F' p = none → MDen K W fr.dr F' H' p d → Q .non H') (fun z => ∀ F' H' cls x, Core K W ⟨fr.dr, fr.sa, mask H, F, fun a => a = p⟩ F' H' n' → XDen K W fr.dr F' H' z cls x → E cls x H') r
def runI (N P c : Nat) (g : SX) : FX := fun ds => M.bind (g (Sl.own (.obj c [] []) :: ds.map Sl.val ++ List.replicate (N - P) Sl.no)) fun o => match o with
  | .nx (Sl.own d :: _) => M.pure d
  | _ => M.opt none
end
section
variable {P : Program} {w : World} {K : PySem.W.Frag} {mg : Str → Option Value} {base : Heap} {W : Wd}
theorem okI {x qual : Str} {st : Stmt} {f : Addr} {fd : FuncData} {N ps : List Str} {k m cc : Nat} {g : SX} (F : Fun K x qual st f fd) (S : FnScope N ps (defScope st)) (hps : ps.length = m + 1)
    (body : ∀ (cdv : Value) (A : Around) (outer : List PySem.Env) (s : Shared) (H : Hp) (E : XK), Room k (A.deeper (envOfC qual (defScope st) s.heap.objs.size f cdv)) → PDSs (cxOf (L2.CX P w) P w K mg base N qual (defScope st) f cdv A outer s H E) W (defBody st) g) :
    FnOk P w K mg base (L2.CX P w) (k + 1) f fd ps (spI K W (runI N.length (m + 1) cc g) cc m) := by
  refine fn_okX F S (fun vs H Q E h => by rw [hps]; exact h.1) fun cdv A outer s H vs Q E hr h => ?_
  obtain ⟨hl, fr, F0, n, p, dx, us, ds, r, n', rfl, hp, hF, hdr, c, dd, e, k⟩ := h
  refine ⟨_, body cdv A outer s H E hr, ?_⟩
  have c' : Core K W ⟨fr.dr, fr.sa, mask H, F0, fun a => a = p⟩ F0 H n := ⟨c.sub, fun _ _ h _ _ => (of_mask h).1, Sub.refl _, fun _ _ _ h => h, fun _ o h => ⟨o, of_mask h⟩, c.draw, c.ntF, c.tabs⟩
  have hus : us.length = m := by simpa using hl
  have key : ∀ (i : Nat) (e : Sl), (Sl.own (.obj cc [] []) :: ds.map Sl.val ++ List.replicate (N.length - (m + 1)) Sl.no)[i]? = some e → e ≠ .no → (i = 0 ∧ e = .own (.obj cc [] [])) ∨ ∃ d j, i = j + 1 ∧ ds[j]? = some d ∧ e = .val d := fun i e q ne => by
    cases i with
    | zero => left; simp at q; exact ⟨rfl, q.symm⟩
    | succ j =>
      right
      rw [List.cons_append, List.getElem?_cons_succ] at q
      by_cases hi : j < ds.length
      · rw [List.getElem?_append_left (by simpa using hi), List.getElem?_map] at q
        cases z : ds[j]? with
        | none => rw [z] at q; cases q
        | some d' => rw [z] at q; cases q; exact ⟨d', j, rfl, z, rfl⟩
      · rw [List.getElem?_append_right (by simpa using hi)] at q
        have := List.mem_of_getElem? q
        rw [List.mem_replicate] at this
        exact absurd this.2 ne
  have R : Rel K W ⟨fr.dr, fr.sa, mask H, F0, fun a => a = p⟩ F0 H (L2.start N (.ref p :: us)) (Sl.own (.obj cc [] []) :: ds.map Sl.val ++ List.replicate (N.length - (m + 1)) Sl.no) n := by
    refine ⟨c', fun _ => p, ?_, fun i e q => ?_, fun i e q => ?_, fun i j e e' q q' _ => ?_⟩
    · unfold L2.start; simp [← dd.length, hus]
    · rcases key i _ q (by simp) with ⟨_, h⟩ | ⟨d', j, rfl, h1, h2⟩
      · cases h
      · cases h2
        obtain ⟨v, h3, h4⟩ := dd.get h1
        refine ⟨v, ?_, h4⟩
        unfold L2.start
        have hi := (List.getElem?_eq_some_iff.mp h3).1
        rw [List.map_cons, List.cons_append, List.getElem?_cons_succ, List.getElem?_append_left (by simpa using hi), List.getElem?_map, h3]; rfl
    · rcases key i _ q (by simp) with ⟨rfl, h⟩ | ⟨d', j, rfl, h1, h2⟩
      · cases h
        exact ⟨rfl, hF, hdr, .inr rfl, ⟨dx, [], rfl, hp, .nil⟩, .inl ⟨rfl, rfl⟩⟩
      · cases h2
    · rcases key i _ q (by simp) with ⟨rfl, h⟩ | ⟨d', j', rfl, h1, h2⟩
      · rcases key j _ q' (by simp) with ⟨rfl, h⟩ | ⟨d', j', rfl, h1, h2⟩
        · rfl
        · cases h2
      · cases h2
  rcases M.bind_any e with ⟨z, e1, rfl⟩ | ⟨o, n1, e1, h1⟩
  · exact ⟨_, F0, _, n, .error z, n', R, e1, fun F' H' σ' cls d c' s' x => acc_of rfl rfl rfl rfl (k F' H' cls d c' x)⟩
  refine ⟨_, F0, _, n, .ok o, n1, R, e1, ?_⟩
  split at h1
  · obtain ⟨a1, a2⟩ := M.pure_any h1
    subst a1 a2
    obtain ⟨k0, k⟩ := k
    intro F' H' σ' R' s'
    obtain ⟨ad, sl⟩ := R'.slots
    obtain ⟨q1, q2, q3, q4, q5, q7⟩ := sl.own 0 _ rfl
    have q6 : ad 0 = p := by
      rcases q7 with q7 | q7
      · exact q7.2
      · rw [k0] at q7; cases q7.1
    rw [q6] at q2 q5
    exact k F' H' R'.core q2 q5
  · obtain ⟨_, q⟩ := M.opt_any h1
    cases q
end
end DL
end

section
set_option Elab.async false
set_option linter.all false
set_option autoImplicit false
set_option maxRecDepth 100000
set_option maxHeartbeats 1000000
namespace DL
open PySem PySem.Spec L2
section
variable {K : PySem.W.Frag} {W : Wd} {fr : Fr} {F F' H H2 H' : Hp} {σ : St} {ρ : Env} {n n' : Int} {x : Addr}
theorem Rel.backM (r : Rel K W fr F H σ ρ n) (hx : H x = none) (h2 : ∀ a o, H a = some o → H2 a = some o) (d : Core K W ⟨fr.dr, fr.sa, mask H2, F, fun a => a = x⟩ F' H' n') : Rel K W fr F' H' σ ρ n' := by
  have c := r.core
  have old : ∀ a o, H a = some o → NT o → fr.dr ≠ some a → H' a = some o := fun a o q nt z => d.base a o (mask_of (h2 _ _ q) nt) z fun e => by
    have e : a = x := e
    rw [e, hx] at q; cases q
  refine r.keep ⟨d.sub, fun a o q1 q2 q3 => ?_, c.f0.trans d.f0, fun a o q1 q2 => ?_, fun a o q => ?_, d.draw, d.ntF, d.tabs⟩ d.f0 old fun a o q nt z => d.new a o (mask_of (h2 _ _ q) nt) z
  · have h := c.base a o q1 q2 q3
    obtain ⟨o', q, nt⟩ := c.there a o q1
    rw [h] at q; cases q
    exact old a o h nt q2
  · obtain ⟨o', q, nt⟩ := c.there a o q1
    exact d.new a o' (mask_of (h2 _ _ q) nt) (c.new a o q1 q2)
  · obtain ⟨o', q', nt⟩ := c.there a o q
    exact d.there a o' (mask_of (h2 _ _ q') nt)
end
section
variable {X : Cx} {W : Wd} {k : Nat} {f : Addr} {fd : FuncData} {ps : List Str} {x m : Str} {p pos apos : Pos} {e o : Expr} {es : List Expr}
theorem mden_den {K : PySem.W.Frag} {dr : Option Addr} {F H : Hp} {a : Addr} {d : D} (m : MDen K W dr F H a d) (hF : F a = none) : ∃ o, H a = some o ∧ Den K W dr (upd F a o) (.ref a) d ∧ NT o := by
  have up : ∀ o, Sub F (upd F a o) := fun o b u q => by rw [upd_ne (ne_of_none q hF)]; exact q
  cases d with
  | lst ds => obtain ⟨vs, e, q⟩ := m; exact ⟨_, e, .lst upd_same (q.mono (up _) fun _ z => z), fun _ z => by cases z⟩
  | dic ks ds => obtain ⟨vs, l, e, q⟩ := m; exact ⟨_, e, .dic l (.inl upd_same) (q.mono (up _) fun _ z => z), fun _ z => by cases z⟩
  | dit ks ds => obtain ⟨vs, l, e, q⟩ := m; exact ⟨_, e, .dit l (.inl upd_same) (q.mono (up _) fun _ z => z), fun _ z => by cases z⟩
  | obj c ks ds => obtain ⟨dx, vs, l, e, q⟩ := m; exact ⟨_, e, .obj l upd_same (q.mono (up _) fun _ z => z), fun _ z => by cases z⟩
  | non => exact m.elim
  | bl _ => exact m.elim
  | int _ => exact m.elim
  | str _ => exact m.elim
  | tup _ => exact m.elim
  | drw => exact m.elim
  | scr => exact m.elim
/-- C(..) -/
def eMake (c : Nat) (fx : FX) (fs : EXs) : EX := fun ρ => M.bind (fs ρ) fun ds => M.bind (fx ds) fun d => match d with
  | .obj c' ks vs => if c' = c then M.pure (.obj c' ks vs) else M.opt none
  | _ => M.opt none
def tMakeS (C : Addr) (sp : Sp) (E : St → XK) (t : TA) : TE := fun σ H Q => t σ H fun vs H1 => ∀ x dx, H1 x = none → H1 dx = none → dx ≠ x → sp (.ref x :: vs) (upd (upd H1 dx (.own x)) x (.ins C dx [])) (fun v H2 => v = .non ∧ Q (.ref x) H2) (E σ)
theorem run_makeS {C : Addr} {CX : CXT} {sp : Sp} {E : St → XK} {pins : List (Addr × Obj)} {σ : St} {H : Hp} {s : Shared} {Q : VK} {us : List Value} {vs : List V} (Mm : Mk X.K C f) (F : FnOk X.prog X.w X.K X.mg X.base CX k f fd ps sp) (hr : Room (k + 1) X.A) (hb : Binds X.K fd ps [])
    (hx : PassesAt CX X σ (E σ)) (I : Inv X pins σ H s) (r : Vals vs us)
    (h : ∀ x dx, H x = none → H dx = none → dx ≠ x → sp (.ref x :: vs) (upd (upd H dx (.own x)) x (.ins C dx [])) (fun v H2 => v = .non ∧ Q (.ref x) H2) (E σ)) :
    wpAny (model X.prog X.w) X.A (call (.ref C) us) (EP X pins σ Q) X.xe s := by
  obtain ⟨dx, edx⟩ : ∃ dx, dx = s.heap.objs.size := ⟨_, rfl⟩
  obtain ⟨x, ex⟩ : ∃ x, x = s.heap.objs.size + 1 := ⟨_, rfl⟩
  have hq := h x dx (I.hok.fresh (by rw [ex]; exact Nat.le_succ _)) (I.hok.fresh (by rw [edx]; exact Nat.le_refl _)) (by rw [edx, ex]; exact Nat.ne_of_lt (Nat.lt_succ_self _))
  subst edx ex
  have J := Inv.made (C := C) I
  have r2 : Vals (V.ref (s.heap.objs.size + 1) :: vs) (Value.ref (s.heap.objs.size + 1) :: us) := .cons rfl r
  have hl : (Value.ref (s.heap.objs.size + 1) :: us ++ []).length = ps.length := by
    have e := r2.length
    rw [F.len _ _ _ _ hq] at e
    rw [List.append_nil]
    exact e.symm
  have b := hb _ (Value.ref (s.heap.objs.size + 1) :: us) J.kIn hl
  rw [List.append_nil] at b
  refine wpAny_call (make_map (f := f) I.kIn Mm.makes Mm.init (beq_iff_eq.mp Mm.fn) (codeAny_mono (F.run _ X.stack _ _ _ _ _ _ (E σ) (hr.make C us []) (J.env0.make C us []) b r2 hq) ?_))
  rintro (e | fl) s' hq'
  · exact hx pins _ _ e s' J hq'
  · cases fl with
    | ret u =>
      obtain ⟨v, H', I3, rv, ev, q3⟩ := J.after hq'
      rw [ev] at rv
      exact ⟨rv, V.ref (s.heap.objs.size + 1), H', I3, rfl, q3⟩
    | next => exact hq'.elim
    | brk => exact hq'.elim
    | cont => exact hq'.elim
theorem pe_makeS {C : Addr} {CX : CXT} {sp : Sp} {E : St → XK} {t : TA} (Mm : Mk X.K C f) (F : FnOk X.prog X.w X.K X.mg X.base CX k f fd ps sp) (hr : Room (k + 1) X.A) (hg : Gl X x) (hm : X.mg x = some (.ref C)) (hb : Binds X.K fd ps []) (hx : ∀ σ, PassesAt CX X σ (E σ))
    (ha : PA X (e :: es) t) (hdb : (x == ("__debug__" : Str)) = false) (he : starEach (e :: es) X.env = (false, eval e X.env) :: starEach es X.env) (hpl : (backTo pos (starEach es X.env)).any (·.1) = false) :
    PE X (.Call (.Name x p) (e :: es) [] pos) (tMakeS C sp E t) := by
  constructor
  intro pins s σ H Q I h
  refine wpAny_Call_Name_kw (ld_glob I hg hm (PySem.W.callWith_K (h₀ := X.base) I.ok.mod.kin Mm.kp (thn (ha.run pos pins s σ H _ I h) ?_) he hpl) hdb)
  rintro us s1 ⟨vs, H1, I1, r, q⟩
  exact ⟨I1.kIn, run_makeS Mm F hr hb (hx σ) I1 r q⟩
theorem tMake_of {c mm : Nat} {fx : FX} {fs : EXs} (hm : ∀ ρ n ds n', fs ρ n = some (.ok ds, n') → ds.length = mm) {σ : St} {H : Hp} {Q : VK} (h : tD X W (eMake c fx fs) σ H Q) : tMakeS (W.cl c) (spI X.K W fx c mm) (EA X) (tDs X W fs) σ H Q := by
  obtain ⟨fr, F, ρ, n, r, n', R, e, k⟩ := h
  rcases M.bind_any e with ⟨z, e1, rfl⟩ | ⟨ds, n1, e1, h1⟩
  · exact ⟨fr, F, ρ, n, .error z, n', R, e1, k⟩
  refine ⟨fr, F, ρ, n, .ok ds, n1, R, e1, fun F1 H1 vs R1 s1 d1 => ?_⟩
  intro x dx hx hdx hne
  have h2 : ∀ a o, H1 a = some o → (upd (upd H1 dx (.own x)) x (.ins (W.cl c) dx [])) a = some o := fun a o q => by
    rw [upd_ne (ne_of_none q hx), upd_ne (ne_of_none q hdx)]; exact q
  have c1 := R1.core
  have F1x := c1.noF hx
  have c3 : Core X.K W fr F1 (upd (upd H1 dx (.own x)) x (.ins (W.cl c) dx [])) n1 := ⟨fun a o q => h2 _ _ (c1.sub _ _ q), fun a o q q2 q3 => h2 _ _ (c1.base a o q q2 q3), c1.f0, c1.new, fun a o q => by
    obtain ⟨o', z, nt⟩ := c1.there a o q
    exact ⟨o', h2 _ _ z, nt⟩, fun a q => by
    obtain ⟨a1, a2, a3⟩ := c1.draw a q
    exact ⟨a1, h2 _ _ a2, a3⟩, c1.ntF, tabs_keep c1.tabs fun a o q _ => h2 _ _ q⟩
  rcases M.bind_any h1 with ⟨z, e2, rfl⟩ | ⟨d', n2, e2, h3⟩
  · exact ⟨by rw [List.length_cons, d1.length, hm _ _ _ _ e1], fr, F1, n1, x, dx, vs, ds, .error z, n', rfl, upd_same, F1x, c1.ndr hx, c3, d1, e2, fun F' H' cls d c2 xx => k F' H' cls d (R1.backM hx h2 c2) (s1.trans c2.f0) xx⟩
  split at h3
  · split at h3
    · obtain ⟨b1, b2⟩ := M.pure_any h3
      rename_i c' ks fs' q
      subst q
      subst b1 b2
      refine ⟨by rw [List.length_cons, d1.length, hm _ _ _ _ e1], fr, F1, n1, x, dx, vs, ds, .ok (.obj c' ks fs'), _, rfl, upd_same, F1x, c1.ndr hx, c3, d1, e2, rfl, fun F' H' c2 q1 q2 => ⟨rfl, ?_⟩⟩
      have R2 := R1.backM hx h2 c2
      obtain ⟨o, z1, z2, z3⟩ := mden_den q2 q1
      obtain ⟨u1, R3⟩ := R2.addF z1 q1 (c1.noH0 hx) (c1.ndr hx) (R1.noOwn hx) z3
      exact k _ H' _ R3 ((s1.trans c2.f0).trans u1) z2
    · obtain ⟨_, q⟩ := M.opt_any h3
      cases q
  · obtain ⟨_, q⟩ := M.opt_any h3
    cases q
theorem d_make {c mm : Nat} {fx : FX} {fs : EXs} (Mm : Mk X.K (W.cl c) f) (F : FnOk X.prog X.w X.K X.mg X.base (L2.CX X.prog X.w) k f fd ps (spI X.K W fx c mm)) (hr : Room (k + 1) X.A) (hg : Gl X x) (hm : X.mg x = some (.ref (W.cl c))) (hb : Binds X.K fd ps [])
    (ha : PDs X W (e :: es) fs) (hl : ∀ ρ n ds n', fs ρ n = some (.ok ds, n') → ds.length = mm) (hdb : (x == ("__debug__" : Str)) = false := by decide) (he : starEach (e :: es) X.env = (false, eval e X.env) :: starEach es X.env := by rfl) (hpl : (backTo pos (starEach es X.env)).any (·.1) = false := by rfl) :
    PD X W (.Call (.Name x p) (e :: es) [] pos) (eMake c fx fs) := imp_E (pe_makeS (E := EA X) Mm F hr hg hm hb (fun _ => passEA) ha hdb he hpl) fun _ _ _ h => tMake_of hl h

/-! ### one's own: fields, lists, dicts -/
def putKs (f : Str) : List Str → List Str
  | [] => [f]
  | g :: r => if g = f then g :: r else g :: putKs f r
def putVs {α : Type} (f : Str) (d : α) : List Str → List α → List α
  | [], _ => [d]
  | g :: r, v :: vs => if g = f then d :: vs else v :: putVs f d r vs
  | _ :: _, [] => []
theorem putKs_length {α : Type} (f : Str) (d : α) : ∀ {ks : List Str} {vs : List α}, ks.length = vs.length → (putKs f ks).length = (putVs f d ks vs).length
  | [], [], _ => rfl
  | [], _ :: _, l => by simp at l
  | g :: r, [], l => by simp at l
  | g :: r, v :: vs, l => by
    unfold putKs putVs
    split
    · exact l
    · simp [putKs_length f d (ks := r) (vs := vs) (by simpa using l)]
theorem putF_zip (f : Str) (v : V) : ∀ {ks : List Str} {vs : List V}, ks.length = vs.length → putF f v (ks.zip vs) = (putKs f ks).zip (putVs f v ks vs)
  | [], [], _ => rfl
  | [], _ :: _, l => by simp at l
  | g :: r, [], l => by simp at l
  | g :: r, u :: vs, l => by
    rw [List.zip_cons_cons]
    unfold putF putKs putVs
    split
    · rw [List.zip_cons_cons]
    · rw [List.zip_cons_cons, putF_zip f v (by simpa using l)]
theorem Dens.putVs {K : PySem.W.Frag} {dr : Option Addr} {F : Hp} (f : Str) {v : V} {d : D} (h : Den K W dr F v d) : ∀ {ks : List Str} {vs : List V} {ds : List D}, ks.length = vs.length → Dens K W dr F vs ds → Dens K W dr F (putVs f v ks vs) (putVs f d ks ds)
  | [], [], _, _, .nil => .cons h .nil
  | [], _ :: _, _, l, _ => by simp at l
  | g :: r, [], _, l, _ => by simp at l
  | g :: r, u :: vs, _, l, .cons q s => by
    unfold DL.putVs
    split
    · exact .cons h s
    · exact .cons q (Dens.putVs f h (by simpa using l) s)
def own? (ρ : Env) (i : Nat) : Option D := match ρ[i]? with
  | some (Sl.own d) => some d
  | _ => none
theorem own_some {ρ : Env} {i : Nat} {d : D} (h : own? ρ i = some d) : ρ[i]? = some (Sl.own d) := by
  unfold own? at h
  split at h
  · cases h; assumption
  · cases h
/-- what is one's own is changed by a value -/
def sUp (i : Nat) (up : D → D → Option D) (fx : EX) : SX := fun ρ => M.bind (fx ρ) fun d => M.bind (M.opt ((own? ρ i).bind (up d))) fun o => M.pure (.nx (ρ.set i (.own o)))
theorem sUp_ok {i : Nat} {up : D → D → Option D} {fx : EX} {ρ : Env} {n n' : Int} {o : Out} (h : sUp i up fx ρ n = some (.ok o, n')) : ∃ d a b, fx ρ n = some (.ok d, n') ∧ ρ[i]? = some (Sl.own a) ∧ up d a = some b ∧ o = .nx (ρ.set i (.own b)) := by
  obtain ⟨d, n1, e1, h1⟩ := M.bind_ok h
  obtain ⟨b, n2, e2, h2⟩ := M.bind_ok h1
  obtain ⟨e3, e4⟩ := M.opt_ok e2
  obtain ⟨e5, e6⟩ := M.pure_ok h2
  subst e4
  cases q : own? ρ i with
  | none => rw [q] at e3; cases e3
  | some a =>
    rw [q] at e3
    exact ⟨d, a, b, by rw [e6]; exact e1, own_some q, e3, e5.symm⟩
/-- self.f = e, self one's own -/
def uFld (c : Nat) (f : Str) (d : D) : D → Option D
  | .obj c' ks vs => if c' = c ∧ ks.length < 1000 ∧ ks.length = vs.length then some (.obj c' (putKs f ks) (putVs f d ks vs)) else none
  | _ => none
theorem S_fld {i c : Nat} {o : Expr} {f : Str} {fx : EX} {value : Expr} {pos pos' : Pos} (cl : Cls X.K (W.cl c)) (na : NoAttr X.K (W.cl c) f) (ho : PE X o (tVar i)) (hv : PD X W value fx) (hs : swapsWith value (some (.Attribute o f pos')) pos.line X.env = pure false := by rfl) : PDS X W (.Assign [.Attribute o f pos'] value pos) (sUp i (uFld c f) fx) := imp_S (ps_fld ho hv hs) fun E σ H ⟨fr, F, ρ, n, r, n', R, e, k⟩ => by
  rcases r with z | o
  · refine R.dE e (KS.x k) fun _ _ _ _ _ _ h _ _ _ => ?_
    rcases M.bind_err h with h | ⟨_, _, _, h⟩
    · exact (M.opt_err h).elim
    · exact (M.pure_err h).elim
  obtain ⟨d, a, b, e1, hi, e3, rfl⟩ := sUp_ok e
  refine ⟨fr, F, ρ, n, .ok d, n', R, e1, fun F1 H1 v R1 s1 d1 => ?_⟩
  unfold uFld at e3
  split at e3
  · split at e3
    · rename_i c' ks vs q
      obtain ⟨q1, q2, q3⟩ := q
      subst q1
      cases e3
      obtain ⟨ad, s⟩ := R1.slots
      obtain ⟨a1, a2, a3, a4, ⟨dx, us, l, a5, a6⟩, a7⟩ := s.own i _ hi
      refine ⟨_, a1, ad i, _, dx, _, rfl, a5, cl, na, ?_, ?_⟩
      · rw [List.length_zip, l, Nat.min_self]
        rw [← l]; exact q2
      · have m' : MDen X.K W fr.dr F1 (upd H1 (ad i) (.ins (W.cl c') dx (putF f v (ks.zip us)))) (ad i) (.obj c' (putKs f ks) (putVs f d ks vs)) :=
          ⟨dx, _, putKs_length f v l, by rw [upd_same, putF_zip f v l], a6.putVs f d1 l⟩
        exact k F1 _ _ (R1.change s hi m' rfl) s1
    · cases e3
  · cases e3
/-- reading a field of one's own -/
def eOwnFld (i c : Nat) (f : Str) : EX := fun ρ => M.opt ((own? ρ i).bind (dFld c f))
theorem d_ownFld {i c : Nat} {o : Expr} {f : Str} {pos : Pos} (cl : Cls X.K (W.cl c)) (na : NoAttr X.K (W.cl c) f) (ho : PE X o (tVar i)) (hb : attributeBase o f X.env (eval o X.env) = eval o X.env := by rfl) : PD X W (.Attribute o f pos) (eOwnFld i c f) := imp_E (pe_fld ho hb) fun σ H Q ⟨fr, F, ρ, n, r, n', R, e, k⟩ => by
  rcases r with z | d
  · exact (M.opt_err e).elim
  obtain ⟨h1, h2⟩ := M.opt_ok e
  subst h2
  cases q : own? ρ i with
  | none => rw [q] at h1; cases h1
  | some a =>
  rw [q] at h1
  have hi := own_some q
  have h1 : dFld c f a = some d := h1
  clear q
  unfold dFld at h1
  split at h1
  · split at h1
    · rename_i c' ks vs q
      subst q
      obtain ⟨ad, s⟩ := R.slots
      obtain ⟨a1, a2, a3, a4, ⟨dx, us, l, a5, a6⟩, a7⟩ := s.own i _ hi
      obtain ⟨u, e1, e2⟩ := lookup_zip l a6 h1
      exact ⟨_, a1, ad i, _, dx, _, u, rfl, a5, cl, na, e1, k F H u R (Sub.refl _) e2⟩
    · cases h1
  · cases h1
/-- x = [] -/
def sOwn (i : Nat) (d : D) : SX := fun ρ => M.pure (.nx (ρ.set i (.own d)))
theorem S_nil_ {i : Nat} {y : Str} {px p2 pos : Pos} (hN : X.N.Nodup) (hi : X.N[i]? = some y) (hx : Loc X.env.scope y) (hs : swapsWith (.List [] p2) (some (.Name y px)) pos.line X.env = pure false := by rfl) (hf : X.fn y = true ∨ X.env.scope.names.lookup y = some .local := by first | exact .inl rfl | exact .inr rfl | assumption) : PDS X W (.Assign [.Name y px] (.List [] p2) pos) (sOwn i (.lst [])) := imp_S (ps_set hN hi hx (pe_lst pa_nil) hs hf) fun E σ H ⟨fr, F, ρ, n, r, n', R, e, k⟩ => by
  rcases r with z | o
  · exact (M.pure_err e).elim
  obtain ⟨b1, b2⟩ := M.pure_ok e
  subst b1 b2
  exact ⟨Nat.zero_le _, fun p hp => k F _ _ (R.setOwn hp rfl ⟨[], upd_same, .nil⟩) (Sub.refl _)⟩
theorem S_dic_ {i : Nat} {y : Str} {px p2 pos : Pos} (hN : X.N.Nodup) (hi : X.N[i]? = some y) (hx : Loc X.env.scope y) (hs : swapsWith (.Dict [] [] p2) (some (.Name y px)) pos.line X.env = pure false := by rfl) (hf : X.fn y = true ∨ X.env.scope.names.lookup y = some .local := by first | exact .inl rfl | exact .inr rfl | assumption) : PDS X W (.Assign [.Name y px] (.Dict [] [] p2) pos) (sOwn i (.dic [] [])) := imp_S (ps_set hN hi hx pe_dnewK hs hf) fun E σ H ⟨fr, F, ρ, n, r, n', R, e, k⟩ => by
  rcases r with z | o
  · exact (M.pure_err e).elim
  obtain ⟨b1, b2⟩ := M.pure_ok e
  subst b1 b2
  exact fun p hp => k F _ _ (R.setOwn hp rfl ⟨[], rfl, upd_same, .nil⟩) (Sub.refl _)
theorem S_dit_ {i : Nat} {y : Str} {px p2 pos : Pos} (hN : X.N.Nodup) (hi : X.N[i]? = some y) (hx : Loc X.env.scope y) (hs : swapsWith (.Dict [] [] p2) (some (.Name y px)) pos.line X.env = pure false := by rfl) (hf : X.fn y = true ∨ X.env.scope.names.lookup y = some .local := by first | exact .inl rfl | exact .inr rfl | assumption) : PDS X W (.Assign [.Name y px] (.Dict [] [] p2) pos) (sOwn i (.dit [] [])) := imp_S (ps_set hN hi hx pe_dnewT hs hf) fun E σ H ⟨fr, F, ρ, n, r, n', R, e, k⟩ => by
  rcases r with z | o
  · exact (M.pure_err e).elim
  obtain ⟨b1, b2⟩ := M.pure_ok e
  subst b1 b2
  exact fun p hp => k F _ _ (R.setOwn hp rfl ⟨[], rfl, upd_same, .nil⟩) (Sub.refl _)
/-- x.append(e) -/
def uApp (d : D) : D → Option D
  | .lst ds => if ds.length < sizeLine then some (.lst (ds ++ [d])) else none
  | _ => none
def ownLst (i : Nat) (ρ : Env) : Option Unit := match own? ρ i with
  | some (.lst _) => some ()
  | _ => none
theorem ownLst_some {i : Nat} {ρ : Env} {u : Unit} (h : ownLst i ρ = some u) : ∃ ds, ρ[i]? = some (Sl.own (.lst ds)) := by
  unfold ownLst at h
  split at h
  · exact ⟨_, own_some ‹_›⟩
  · cases h
def sApp (i : Nat) (fx : EX) : SX := fun ρ => M.bind (M.opt (ownLst i ρ)) fun _ => sUp i uApp fx ρ
theorem S_app {i : Nat} {o e : Expr} {fx : EX} {apos cpos pos : Pos} (he : PD X W e fx) (hp : PE X (.Call (.Attribute o "append" apos) [e] [] cpos) (tBM X.K "list" rAppend (tVar i) (tCons (tD X W fx) tNil))) (hs : swapsWith (.Call (.Attribute o "append" apos) [e] [] cpos) none pos.line X.env = pure false := by rfl) : PDS X W (.Expr (.Call (.Attribute o "append" apos) [e] [] cpos) pos) (sApp i fx) := imp_S (ps_expr hp hs) fun E σ H ⟨fr, F, ρ, n, r, n', R, e, k⟩ => by
  rcases M.bind_any e with ⟨z, e0, rfl⟩ | ⟨ds0, n0, e0, e9⟩
  · exact (M.opt_err e0).elim
  clear e
  have e := e9
  clear e9
  obtain ⟨q0, q1⟩ := M.opt_ok e0
  subst q1
  obtain ⟨zs0, q0⟩ := ownLst_some q0
  rcases r with z | o
  · obtain ⟨ad0, s0⟩ := R.slots
    obtain ⟨z1, z2, z3, z4, ⟨zs, z5, z6⟩, z7⟩ := s0.own i _ q0
    refine ⟨_, z1, .inl ⟨rfl, _, SqL.of z5⟩, ?_⟩
    refine R.dE e (KS.x k) fun _ _ _ _ _ _ h _ _ _ => ?_
    rcases M.bind_err h with h | ⟨_, _, _, h⟩
    · exact (M.opt_err h).elim
    · exact (M.pure_err h).elim
  obtain ⟨d, a, b, e1, hi, e3, rfl⟩ := sUp_ok e
  unfold uApp at e3
  split at e3
  · split at e3
    · rename_i ds q
      cases e3
      obtain ⟨ad0, s0⟩ := R.slots
      obtain ⟨z1, z2, z3, z4, ⟨zs, z5, z6⟩, z7⟩ := s0.own i _ hi
      refine ⟨_, z1, .inl ⟨rfl, _, SqL.of z5⟩, fr, F, ρ, _, .ok d, _, R, e1, fun F1 H1 v R1 s1 d1 => ?_⟩
      obtain ⟨ad, s⟩ := R1.slots
      obtain ⟨a1, a2, a3, a4, ⟨us, a5, a6⟩, a7⟩ := s.own i _ hi
      have ea : ad i = ad0 i := by rw [a1] at z1; injection z1 with z1; injection z1 with z1; injection z1
      refine ⟨ad i, us, v, by rw [ea], rfl, a5, by rw [a6.length]; exact q, ?_⟩
      exact k F1 _ _ (R1.change s hi ⟨us ++ [v], upd_same, a6.append (.cons d1 .nil)⟩ rfl) s1
    · cases e3
  · cases e3
/-- from here on it is not changed any more -/
def frzE (i : Nat) (ρ : Env) : Option Env := (own? ρ i).bind fun d => if isO d then none else some (ρ.set i (.val d))
def sFrz (i : Nat) : SX := fun ρ => M.bind (M.opt (frzE i ρ)) fun ρ' => M.pure (.nx ρ')
theorem S_frz {i : Nat} {st : List Stmt} {g : SX} (h : PDSs X W st g) : PDSs X W st (sSeq (sFrz i) g) := imp_Ss h fun E σ H ⟨fr, F, ρ, n, r, n', R, e, k⟩ => by
  rcases M.bind_any e with ⟨z, e1, rfl⟩ | ⟨o1, n1, e1, h1⟩
  · rcases M.bind_err e1 with h | ⟨_, _, _, h⟩
    · exact (M.opt_err h).elim
    · exact (M.pure_err h).elim
  obtain ⟨ρ1, n2, e2, h2⟩ := M.bind_ok e1
  obtain ⟨e3, e4⟩ := M.opt_ok e2
  obtain ⟨e5, e6⟩ := M.pure_ok h2
  subst e5 e4
  subst e6
  unfold frzE at e3
  cases q : own? ρ i with
  | none => rw [q] at e3; cases e3
  | some d =>
    rw [q] at e3
    have hi := own_some q
    have e3 : (if isO d then none else some (ρ.set i (.val d))) = some ρ1 := e3
    split at e3
    · cases e3
    · rename_i hd
      cases e3
      obtain ⟨ad, s⟩ := R.slots
      have hx : fr.H0 (ad i) = none := by
        obtain ⟨a1, a2, a3, a4, a5, a6⟩ := s.own i _ hi
        rcases a6 with a6 | a6
        · exact absurd a6.1 hd
        · exact a6.2
      obtain ⟨F', s', R'⟩ := R.freeze s hi hx
      exact ⟨fr, F', _, _, r, n', R', h1, resS_mono s' k⟩
end
end DL
end

section
set_option Elab.async false
set_option linter.all false
set_option autoImplicit false
set_option maxRecDepth 100000
set_option maxHeartbeats 1000000
namespace DL
open PySem PySem.Spec L2
open PyProof.Rows (envOfC)
section
variable {X : Cx} {W : Wd} {x : Str} {p pos : Pos} {e : Expr} {es : List Expr}

/-! ### built-ins -/
def dInts : List D → Option (List Int)
  | [] => some []
  | .int i :: r => match dInts r with | some ns => some (i :: ns) | none => none
  | _ => none
theorem ints_of {K : PySem.W.Frag} {dr : Option Addr} {F : Hp} : ∀ {vs : List V} {ds : List D} {ns : List Int}, Dens K W dr F vs ds → dInts ds = some ns → vs = ns.map V.int
  | _, _, _, .nil, e => by unfold dInts at e; cases e; rfl
  | _, _, _, .cons h r, e => by
    unfold dInts at e
    split at e
    · rename_i q; cases q
    · rename_i q
      split at e
      · cases q; cases e; cases h
        rw [ints_of r ‹_›]; rfl
      · cases e
    · cases e
def dBls : List D → Option (List Bool)
  | [] => some []
  | .bl i :: r => match dBls r with | some ns => some (i :: ns) | none => none
  | _ => none
theorem bls_of {K : PySem.W.Frag} {dr : Option Addr} {F : Hp} : ∀ {vs : List V} {ds : List D} {ns : List Bool}, Dens K W dr F vs ds → dBls ds = some ns → vs = ns.map V.bl
  | _, _, _, .nil, e => by unfold dBls at e; cases e; rfl
  | _, _, _, .cons h r, e => by
    unfold dBls at e
    split at e
    · rename_i q; cases q
    · rename_i q
      split at e
      · cases q; cases e; cases h
        rw [bls_of r ‹_›]; rfl
      · cases e
    · cases e
def dSum : List D → Option D
  | [.lst ds] => match dInts ds with | some ns => some (.int ns.sum) | none => none
  | _ => none
def dAny : List D → Option D
  | [.lst ds] => match dBls ds with | some ns => some (.bl (ns.any id)) | none => none
  | _ => none
def dAll : List D → Option D
  | [.lst ds] => match dBls ds with | some ns => some (.bl (ns.all id)) | none => none
  | _ => none
theorem q_sum {K : PySem.W.Frag} : CallD K W (rSum K) dSum := by
  intro fr F H σ ρ n xs d vs Q R dx h k
  unfold dSum at h
  split at h
  · split at h
    · cases h
      cases dx with
      | cons h1 h2 =>
        cases h2
        cases h1 with
        | lst h3 h4 =>
          have := ints_of h4 ‹_›
          subst this
          exact ⟨_, _, rfl, SqL.of (R.core.sub _ _ h3), k F H _ R (Sub.refl _) (.int _)⟩
    · cases h
  · cases h
theorem q_any {K : PySem.W.Frag} : CallD K W (rAny K) dAny := by
  intro fr F H σ ρ n xs d vs Q R dx h k
  unfold dAny at h
  split at h
  · split at h
    · cases h
      cases dx with
      | cons h1 h2 =>
        cases h2
        cases h1 with
        | lst h3 h4 =>
          have := bls_of h4 ‹_›
          subst this
          exact ⟨_, _, rfl, SqL.of (R.core.sub _ _ h3), k F H _ R (Sub.refl _) (.bl _)⟩
    · cases h
  · cases h
theorem q_all {K : PySem.W.Frag} : CallD K W (rAll K) dAll := by
  intro fr F H σ ρ n xs d vs Q R dx h k
  unfold dAll at h
  split at h
  · split at h
    · cases h
      cases dx with
      | cons h1 h2 =>
        cases h2
        cases h1 with
        | lst h3 h4 =>
          have := bls_of h4 ‹_›
          subst this
          exact ⟨_, _, rfl, SqL.of (R.core.sub _ _ h3), k F H _ R (Sub.refl _) (.bl _)⟩
    · cases h
  · cases h
def dAbs : List D → Option D
  | [.int i] => some (.int (if i < 0 then -i else i))
  | _ => none
theorem q_abs {K : PySem.W.Frag} : CallD K W (fun xs H Q => ∃ i, xs = [.int i] ∧ Q (.int (if i < 0 then -i else i)) H) dAbs := by
  intro fr F H σ ρ n xs d vs Q R dx h k
  unfold dAbs at h
  split at h
  · cases h
    cases dx with
    | cons h1 h2 => cases h2; cases h1; exact ⟨_, rfl, k F H _ R (Sub.refl _) (.int _)⟩
  · cases h
def dMin2 : List D → Option D
  | [.int i, .int j] => some (.int (if j < i then j else i))
  | _ => none
def dMax2 : List D → Option D
  | [.int i, .int j] => some (.int (if j > i then j else i))
  | _ => none
theorem q_min2 {K : PySem.W.Frag} : CallD K W (fun xs H Q => ∃ i j, xs = [.int i, .int j] ∧ Q (.int (if j < i then j else i)) H) dMin2 := by
  intro fr F H σ ρ n xs d vs Q R dx h k
  unfold dMin2 at h
  split at h
  · cases h
    cases dx with
    | cons h1 h2 => cases h2 with
      | cons h2 h3 => cases h3; cases h1; cases h2; exact ⟨_, _, rfl, k F H _ R (Sub.refl _) (.int _)⟩
  · cases h
theorem q_max2 {K : PySem.W.Frag} : CallD K W (fun xs H Q => ∃ i j, xs = [.int i, .int j] ∧ Q (.int (if j > i then j else i)) H) dMax2 := by
  intro fr F H σ ρ n xs d vs Q R dx h k
  unfold dMax2 at h
  split at h
  · cases h
    cases dx with
    | cons h1 h2 => cases h2 with
      | cons h2 h3 => cases h3; cases h1; cases h2; exact ⟨_, _, rfl, k F H _ R (Sub.refl _) (.int _)⟩
  · cases h
def dInt : List D → Option D
  | [.int i] => some (.int i)
  | [.bl b] => some (.int (if b then 1 else 0))
  | _ => none
theorem q_int {K : PySem.W.Frag} : CallD K W (fun xs H Q => (∃ i, xs = [.int i] ∧ Q (.int i) H) ∨ ∃ k, xs = [.bl k] ∧ Q (.int (if k then 1 else 0)) H) dInt := by
  intro fr F H σ ρ n xs d vs Q R dx h k
  unfold dInt at h
  split at h
  · cases h
    cases dx with
    | cons h1 h2 => cases h2; cases h1; exact .inl ⟨_, rfl, k F H _ R (Sub.refl _) (.int _)⟩
  · cases h
    cases dx with
    | cons h1 h2 => cases h2; cases h1; exact .inr ⟨_, rfl, k F H _ R (Sub.refl _) (.int _)⟩
  · cases h
def dTupOf : List D → Option D
  | [.lst ds] => some (.tup ds)
  | [.tup ds] => some (.tup ds)
  | _ => none
theorem q_tupOf {K : PySem.W.Frag} : CallD K W (fun xs H Q => ∃ p ys, xs = [.ref p] ∧ ((SqL K H p ys ∧ ∀ l, H l = none → Q (.ref l) (upd H l (.tup ys))) ∨ (SqT K H p ys ∧ Q (.ref p) H))) dTupOf := by
  intro fr F H σ ρ n xs d vs Q R dx h k
  unfold dTupOf at h
  split at h
  · cases h
    cases dx with
    | cons h1 h2 =>
      cases h2
      cases h1 with
      | lst h3 h4 => exact ⟨_, _, rfl, .inl ⟨SqL.of (R.core.sub _ _ h3), put_tup R h4 k⟩⟩
  · cases h
    cases dx with
    | cons h1 h2 =>
      cases h2
      cases h1 with
      | tup h3 h4 => exact ⟨_, _, rfl, .inr ⟨R.core.sub.sqT h3, k F H _ R (Sub.refl _) (.tup h3 h4)⟩⟩
  · cases h
def dLstOf : List D → Option D
  | [.lst ds] => some (.lst ds)
  | [.tup ds] => some (.lst ds)
  | _ => none
theorem q_lstOf {K : PySem.W.Frag} : CallD K W (fun xs H Q => ∃ p ys, xs = [.ref p] ∧ (SqL K H p ys ∨ SqT K H p ys) ∧ ∀ l, H l = none → Q (.ref l) (upd H l (.lst ys))) dLstOf := by
  intro fr F H σ ρ n xs d vs Q R dx h k
  unfold dLstOf at h
  split at h
  · cases h
    cases dx with
    | cons h1 h2 =>
      cases h2
      cases h1 with
      | lst h3 h4 => exact ⟨_, _, rfl, .inl (SqL.of (R.core.sub _ _ h3)), put_lst R h4 k⟩
  · cases h
    cases dx with
    | cons h1 h2 =>
      cases h2
      cases h1 with
      | tup h3 h4 => exact ⟨_, _, rfl, .inr (R.core.sub.sqT h3), put_lst R h4 k⟩
  · cases h

/-! ### x op= e -/
def sAug (i : Nat) (op : D → D → Option D) (fx : EX) : SX := fun ρ => M.bind (eVar i ρ) fun a => M.bind (fx ρ) fun b => M.bind (M.opt (op a b)) fun d => M.pure (.nx (ρ.set i (.val d)))
theorem S_aug {i : Nat} {y : Str} {f : Int → Int → Int} {fx : EX} {op : Operator} {pos' pos : Pos} (hN : X.N.Nodup) (hi : X.N[i]? = some y) (hx : Loc X.env.scope y) (he : PD X W e fx) (ho : PIp X op (ipI f)) (hf : X.fn y = true ∨ X.env.scope.names.lookup y = some .local := by first | exact .inl rfl | exact .inr rfl | assumption) :
    PDS X W (.AugAssign (.Name y pos') op e pos) (sAug i (dI (fun _ _ => true) fun a b => .int (f a b)) fx) := imp_S (ps_aug hN hi hx he ho hf) fun E σ H ⟨fr, F, ρ, n, r, n', R, e, k⟩ => by
  rcases r with z | o
  · rcases M.bind_err e with h | ⟨a, n1, e1, h1⟩
    · exact (M.opt_err h).elim
    obtain ⟨e8, e9⟩ := eVar_some e1
    subst e9
    obtain ⟨ad, s⟩ := R.slots
    obtain ⟨v, q1, q2⟩ := s.val i a e8
    refine ⟨v, q1, R.dE h1 (KS.x k) fun _ _ _ _ _ _ h _ _ _ => ?_⟩
    rcases M.bind_err h with h | ⟨_, _, _, h⟩
    · exact (M.opt_err h).elim
    · exact (M.pure_err h).elim
  obtain ⟨a, n1, e1, h1⟩ := M.bind_ok e
  obtain ⟨b, n2, e2, h2⟩ := M.bind_ok h1
  obtain ⟨d, n3, e3, h3⟩ := M.bind_ok h2
  obtain ⟨e4, e5⟩ := M.opt_ok e3
  obtain ⟨e6, e7⟩ := M.pure_ok h3
  obtain ⟨e8, e9⟩ := eVar_some e1
  clear e h1 h2 h3 e3
  subst e9 e6
  subst e7
  subst e5
  obtain ⟨ad, s⟩ := R.slots
  obtain ⟨v, q1, q2⟩ := s.val i a e8
  refine ⟨v, q1, fr, F, ρ, _, .ok b, _, R, e2, fun F1 H1 u R1 s1 d1 => ?_⟩
  unfold dI at e4
  split at e4
  · simp only [if_true] at e4
    cases e4; cases q2; cases d1
    exact ⟨_, _, rfl, rfl, k F1 H1 _ (R1.set (.int _)) s1⟩
  · cases e4

/-! ### the draws -/
/-- the law's script, by its place in the draw -/
def eDrw0 (fx : EX) : EX := fun ρ => M.bind (fx ρ) fun d => match d with
  | .drw => M.pure .scr
  | _ => M.opt none
def eDrw1 (fx : EX) : EX := fun ρ => M.bind (fx ρ) fun d => match d with
  | .drw => fun n => some (.ok (.int n), n)
  | _ => M.opt none
theorem d_drw0 {a : Expr} {fa : EX} {p2 pos : Pos} {jj : Nat} (ha : PD X W a fa) : PD X W (.Subscript a (.Constant (.int 0) jj p2) pos) (eDrw0 fa) := imp_E (pe_ix ix_list ha pe_int (fun _ _ => rfl)) fun σ H Q ⟨fr, F, ρ, n, r, n', R, e, k⟩ => by
  rcases r with z | d
  · refine R.dE e k fun _ _ _ _ _ _ h _ _ _ => ?_
    split at h
    · exact (M.pure_err h).elim
    · exact (M.opt_err h).elim
  obtain ⟨x, n1, e1, h1⟩ := M.bind_ok e
  refine ⟨fr, F, ρ, n, .ok x, n1, R, e1, fun F1 H1 v R1 s1 d1 => ?_⟩
  split at h1
  · obtain ⟨b1, b2⟩ := M.pure_ok h1
    subst b1 b2
    cases d1 with
    | drw q =>
      obtain ⟨q1, q2, q3⟩ := R1.core.draw _ q
      exact ⟨_, _, 0, .ref fr.sa, rfl, rfl, SqL.of q2, rfl, k F1 H1 _ R1 s1 (.scr q3)⟩
  · cases (M.opt_ok h1).1
theorem d_drw1 {a : Expr} {fa : EX} {p2 pos : Pos} {jj : Nat} (ha : PD X W a fa) : PD X W (.Subscript a (.Constant (.int 1) jj p2) pos) (eDrw1 fa) := imp_E (pe_ix ix_list ha pe_int (fun _ _ => rfl)) fun σ H Q ⟨fr, F, ρ, n, r, n', R, e, k⟩ => by
  rcases r with z | d
  · refine R.dE e k fun _ _ _ _ _ _ h _ _ _ => ?_
    split at h
    · cases h
    · exact (M.opt_err h).elim
  obtain ⟨x, n1, e1, h1⟩ := M.bind_ok e
  refine ⟨fr, F, ρ, n, .ok x, n1, R, e1, fun F1 H1 v R1 s1 d1 => ?_⟩
  split at h1
  · cases h1
    cases d1 with
    | drw q =>
      obtain ⟨q1, q2, q3⟩ := R1.core.draw _ q
      exact ⟨_, _, 1, .int _, rfl, rfl, SqL.of q2, rfl, k F1 H1 _ R1 s1 (.int _)⟩
  · cases (M.opt_ok h1).1
def isDrw : D → Bool | .drw => true | _ => false
/-- draw[1] += 1 -/
def sDrw (fx : EX) : SX := fun ρ => M.bind (fx ρ) fun d => if isDrw d then fun n => some (.ok (.nx ρ), n + 1) else M.opt none
def rGetL (K : PySem.W.Frag) : V → V → Hp → VK → Prop := fun x y H Q => ∃ p xs j v, x = .ref p ∧ y = .int ((j : Nat) : Int) ∧ SqL K H p xs ∧ xs[j]? = some v ∧ Q v H
theorem get_list : PGet X (rGetL X.K) := by
  intro pins s σ H x y v u Q I rx ry h
  obtain ⟨p, xs, j, z, rfl, rfl, hq, he, q⟩ := h
  cases rx
  obtain ⟨t, rfl⟩ := ry
  obtain ⟨its, r, pl, hz⟩ := I.list hq
  obtain ⟨w, ew, rw'⟩ := r.get he
  have hl := r.length
  have hn := line63
  have hj : j < its.length := (List.getElem?_eq_some_iff.mp ew).1
  exact wpAny_getItem_list pl.isList (by omega) (by omega) (by simpa using ew) ⟨z, H, I, rw', q⟩
theorem Rel.drawn {K : PySem.W.Frag} {fr : Fr} {F H : Hp} {σ : St} {ρ : Env} {n m : Int} {a : Addr} (r : Rel K W fr F H σ ρ n) (q : fr.dr = some a) : Rel K W fr F (upd H a (.lst [.ref fr.sa, .int m])) σ ρ m := by
  have c := r.core
  obtain ⟨ad, s⟩ := r.slots
  obtain ⟨q1, q2, q3⟩ := c.draw _ q
  refine ⟨⟨fun b u z => ?_, fun b u z z2 z3 => ?_, c.f0, c.new, fun b u z => ?_, fun b z => ?_, c.ntF, ?_⟩, ad, s.len, s.val, fun i d z => ?_, s.inj⟩
  · rw [upd_ne (ne_of_none z q1)]; exact c.sub _ _ z
  · rw [upd_ne (fun e => z2 (by rw [e]; exact q))]; exact c.base b u z z2 z3
  · by_cases e : b = a
    · rw [e]; exact ⟨_, upd_same, fun _ z => by cases z⟩
    · obtain ⟨o', z', nt⟩ := c.there b u z
      exact ⟨o', by rw [upd_ne e]; exact z', nt⟩
  · rw [q] at z
    cases z
    exact ⟨q1, upd_same, q3⟩
  · refine tabs_keep c.tabs fun b u z sd => ?_
    have ne : b ≠ a := fun e => by subst e; exact (sd_of q2) _ z sd
    rw [upd_ne ne]; exact z
  · obtain ⟨z1, z2, z3, z4, z5, z6⟩ := s.own i d z
    exact ⟨z1, z2, z3, z4, z5.mono (Sub.refl _) (fun u e => by rw [upd_ne (fun e' => z3 (by rw [e']; exact q))]; exact e), z6⟩
theorem S_drw {a : Expr} {fa : EX} {p2 p3 p4 pos : Pos} {jj kk : Nat} (ha : PD X W a fa) : PDS X W (.AugAssign (.Subscript a (.Constant (.int 1) jj p2) p4) .Add (.Constant (.int 1) kk p3) pos) (sDrw fa) := imp_S (ps_augS ha pe_int get_list pe_int ip_add set_list) fun E σ H ⟨fr, F, ρ, n, r, n', R, e, k⟩ => by
  rcases r with z | o
  · refine R.dE e (KS.x k) fun _ _ _ _ _ _ h _ _ _ => ?_
    split at h
    · cases h
    · exact (M.opt_err h).elim
  obtain ⟨x, n1, e1, h1⟩ := M.bind_ok e
  refine ⟨fr, F, ρ, n, .ok x, n1, R, e1, fun F1 H1 v R1 s1 d1 => ?_⟩
  split at h1
  · rename_i hx
    cases h1
    unfold isDrw at hx
    split at hx
    · cases d1 with
      | drw q =>
        obtain ⟨q1, q2, q3⟩ := R1.core.draw _ q
        exact ⟨_, _, 1, _, rfl, rfl, SqL.of q2, rfl, _, _, rfl, rfl, _, _, _, 1, rfl, rfl, q2, rfl, k F1 _ σ (R1.drawn q) s1⟩
    · cases hx
  · cases (M.opt_ok h1).1
/-- the script: is it empty, its length, its items -/
def dScrNil (W : Wd) : D → D → Option D
  | .scr, .lst [] => some (.bl W.ns.isEmpty)
  | _, _ => none
def intsPy (ns : List Int) : List PyData := ns.map PyData.int
theorem dpAll_ints {K : PySem.W.Frag} {H : Hp} : ∀ ns : List Int, DpAll K H (ns.map V.int) (intsPy ns)
  | [] => .nil
  | i :: r => .cons (.int i) (dpAll_ints r)
theorem canLay_ints : ∀ ns : List Int, PyData.canLayAll0 (intsPy ns) = true
  | [] => by unfold intsPy; rfl
  | i :: r => by
    have := canLay_ints r
    unfold intsPy at this ⊢
    rw [List.map_cons]
    unfold PyData.canLayAll0
    rw [this]; unfold PyData.canLay0; rfl
theorem depth_ints : ∀ ns : List Int, PyData.depthAll (intsPy ns) = 0
  | [] => by unfold intsPy; rfl
  | i :: r => by
    have := depth_ints r
    unfold intsPy at this ⊢
    rw [List.map_cons]
    unfold PyData.depthAll
    rw [this]; unfold PyData.depth; rfl
theorem shaped_ints (ns : List Int) : SeqAt.shaped (.list (intsPy ns)) = true := by
  unfold SeqAt.shaped
  unfold PyData.canLay0 PyData.depth
  rw [canLay_ints, depth_ints]; rfl
theorem d_scrNil {a b : Expr} {fa fb : EX} {pos : Pos} (hu : X.A.units + 64 < cLine) (ha : PD X W a fa) (hb : PD X W b fb) : PD X W (.Compare a [.Eq] [b] pos) (e2 (dScrNil W) fa fb) := d_cmp (op_eqD hu) (by
  intro fr F H σ ρ n x y d v u Q R dx dy h k
  unfold dScrNil at h
  split at h
  · cases h
    cases dx with
    | scr h1 =>
      cases dy with
      | lst h2 h3 =>
        cases h3
        refine ⟨.list (intsPy W.ns), .list [], .lst (R.core.sub.sqL h1) (dpAll_ints _), .lst (SqL.of (R.core.sub _ _ h2)) .nil, shaped_ints _, by decide, ?_⟩
        have : PyData.eqv (.list (intsPy W.ns)) (.list []) = W.ns.isEmpty := by
          unfold PyData.eqv
          cases e : W.ns with
          | nil => rfl
          | cons i r => rfl
        rw [this]
        exact k F H _ R (Sub.refl _) (.bl _)
  · cases h) ha hb (nomark _)
def dLenS (W : Wd) : List D → Option D
  | [.scr] => some (.int W.ns.length)
  | _ => none
theorem q_lenS {K : PySem.W.Frag} : CallD K W (fun xs H Q => ∃ x n, xs = [x] ∧ LenV K x H n ∧ Q (.int n) H) (dLenS W) := by
  intro fr F H σ ρ n xs d vs Q R dx h k
  unfold dLenS at h
  split at h
  · cases h
    cases dx with
    | cons h1 h2 =>
      cases h2
      cases h1 with
      | scr h3 => exact ⟨_, W.ns.length, rfl, .inl ⟨_, R.core.sub.sqL h3, by simp⟩, k F H _ R (Sub.refl _) (.int _)⟩
  · cases h
def dIxS (W : Wd) : D → D → Option D
  | .scr, .int i => (atI W.ns i).map D.int
  | _, _ => none
theorem atI_map {α β : Type} (f : α → β) (xs : List α) (i : Int) : atI (xs.map f) i = (atI xs i).map f := by
  unfold atI
  rw [List.length_map]
  cases ixN xs.length i with
  | none => rfl
  | some j => simp
theorem d_ixS {a b : Expr} {fa fb : EX} {pos : Pos} (ha : PD X W a fa) (hb : PD X W b fb) (hs : PlainIx b := by exact fun _ _ => rfl) : PD X W (.Subscript a b pos) (e2 (dIxS W) fa fb) := imp_E (pe_ix ix_list ha hb hs) fun σ H Q h => d_tOp (by
  intro fr F H σ ρ n x y d v u Q R dx dy h k
  unfold dIxS at h
  split at h
  · cases dx with
    | scr h1 =>
      cases dy
      rename_i i _
      cases e : atI W.ns i with
      | none => rw [e] at h; cases h
      | some z =>
        rw [e] at h
        cases h
        exact ⟨_, _, _, .int z, rfl, rfl, R.core.sub.sqL h1, by rw [atI_map, e]; rfl, k F H _ R (Sub.refl _) (.int _)⟩
  · cases h) h

end

/-! ### the law -/
def spLaw (K : PySem.W.Frag) (T : List (Addr × Str)) : Sp := fun vs H Q _ => ∃ (a : Addr) (ns : List Int), vs = [.ref a] ∧ SqL K H a (ns.map V.int) ∧ ns.length ≤ 63 ∧ LamX.Tabs T H ∧ ∀ H', Q (.bl true) H'
/-- the law's first statement is «draw = [script, 0]» -/
theorem okLaw {P : Program} {w : World} {K : PySem.W.Frag} {mg : Str → Option Value} {base : Heap} {x qual : Str} {st : Stmt} {f : Addr} {fd : FuncData} {N : List Str} {k : Nat} {y z : Str} {px py pl p0 pa : Pos} {jj : Nat} {rest : List Stmt} {cl : Nat → Addr} {T : List (Addr × Str)} (g : Wd → SX)
    (F : Fun K x qual st f fd) (S : FnScope N [y] (defScope st)) (hbody : defBody st = .Assign [.Name z px] (.List [.Name y py, .Constant (.int 0) jj p0] pl) pa :: rest)
    (first : ∀ (cdv : Value) (A : Around) (outer : List PySem.Env) (s : Shared) (H : Hp) (E : XK), PS (cxOf (L2.CX P w) P w K mg base N qual (defScope st) f cdv A outer s H E) (.Assign [.Name z px] (.List [.Name y py, .Constant (.int 0) jj p0] pl) pa) (tAsg (tLst (tCons (tVar 0) (tCons (tC (.int 0)) tNil))) (gName 1)))
    (body : ∀ (W : Wd), W.cl = cl → W.tb = T → ∀ (cdv : Value), Cdv fd cdv → ∀ (A : Around) (outer : List PySem.Env) (s : Shared) (H : Hp) (E : XK), Room k (A.deeper (envOfC qual (defScope st) s.heap.objs.size f cdv)) → PDSs (cxOf (L2.CX P w) P w K mg base N qual (defScope st) f cdv A outer s H E) W rest (g W))
    (good : ∀ W : Wd, W.ns.length ≤ 63 → W.cl = cl → ∃ n', g W (.val .scr :: .val .drw :: List.replicate (N.length - 2) Sl.no) 0 = some (.ok (.ret (.bl true)), n')) (hN : 2 ≤ N.length) :
    FnOk P w K mg base (L2.CX P w) (k + 1) f fd [y] (spLaw K T) := by
  refine fn_okXc F S (fun vs H Q E h => ?_) fun cdv hcd A outer s H vs Q E hr h => ?_
  · obtain ⟨a, ns, rfl, _⟩ := h
    rfl
  · obtain ⟨a, ns, rfl, hS, hl, hT, hk⟩ := h
    rw [hbody]
    refine ⟨_, pss_cons (first cdv A outer s H E) (body ⟨cl, ns, T⟩ rfl rfl cdv hcd A outer s H E hr), ?_⟩
    refine ⟨_, rfl, (by show 2 ≤ sizeLine; decide), fun p hp => ?_⟩
    obtain ⟨n', e⟩ := good ⟨cl, ns, T⟩ hl rfl
    have hne : p ≠ a ∨ ∃ o, K.lookup a = some o := by
      rcases hS with (h | ⟨o, h⟩) | ⟨o, _, _, h, _⟩
      · exact .inl fun e => by rw [e, h] at hp; cases hp
      · exact .inl fun e => by rw [e, h] at hp; cases hp
      · exact .inr ⟨o, h⟩
    let F0 : Hp := fun b => if b = p then none else if b = a then mask H a else none
    have fa : ∀ u, F0 a = some u → H a = some u := fun u q => by
      by_cases e : a = p
      · simp [F0, e] at q
      · have q : mask H a = some u := by simpa [F0, e] using q
        exact (of_mask q).1
    have hF : SqL K F0 a (ns.map V.int) := by
      rcases hS with (h | ⟨o, h⟩) | h
      · have : a ≠ p := fun e => by rw [← e, h] at hp; cases hp
        exact .inl (.inl (by simp only [F0, if_neg this, if_true]; exact mask_of h))
      · have : a ≠ p := fun e => by rw [← e, h] at hp; cases hp
        exact .inl (.inr ⟨o, by simp only [F0, if_neg this, if_true]; exact mask_of h⟩)
      · exact .inr h
    have hsub : Sub F0 (upd H p (.lst [.ref a, .int 0])) := fun b u q => by
      by_cases e : b = p
      · simp [F0, e] at q
      · by_cases e2 : b = a
        · subst e2
          rw [upd_ne e]; exact fa u q
        · simp [F0, e, e2] at q
    have nt0 : ∀ b u, F0 b = some u → NT u := fun b u q => by
      by_cases e : b = p
      · simp [F0, e] at q
      · by_cases e2 : b = a
        · subst e2
          have q : mask H b = some u := by simpa [F0, e] using q
          exact (of_mask q).2
        · simp [F0, e, e2] at q
    have c : Core K ⟨cl, ns, T⟩ ⟨some p, a, mask (upd H p (.lst [.ref a, .int 0])), F0, fun _ => False⟩ F0 (upd H p (.lst [.ref a, .int 0])) 0 :=
      ⟨hsub, fun _ _ h _ _ => (of_mask h).1, Sub.refl _, fun _ _ _ h => h, fun _ o h => ⟨o, of_mask h⟩, fun b q => by
        cases q
        exact ⟨by simp [F0], upd_same, hF⟩, nt0, tabs_keep hT fun b u q _ => by rw [upd_ne (ne_of_none q hp)]; exact q⟩
    refine ⟨_, F0, _, 0, _, n', ⟨c, fun _ => 0, ?_, fun i d q => ?_, fun i d q => ?_, fun i j d d' q _ => ?_⟩, e, fun F' H' v c' s' d' => ?_⟩
    · unfold L2.start
      simp
      omega
    · cases i with
      | zero =>
        cases q
        refine ⟨.ref a, ?_, .scr hF⟩
        show (List.set _ 1 _)[0]? = _
        rw [List.getElem?_set_ne (by decide)]; rfl
      | succ i =>
        cases i with
        | zero =>
          cases q
          refine ⟨.ref p, ?_, .drw rfl⟩
          rw [get_set_self (by unfold L2.start; simp; omega)]
        | succ i =>
          have := List.mem_of_getElem? (show (List.replicate (N.length - 2) Sl.no)[i]? = some (Sl.val d) from q)
          rw [List.mem_replicate] at this
          cases this.2
    · cases i with
      | zero => cases q
      | succ i =>
        cases i with
        | zero => cases q
        | succ i =>
          have := List.mem_of_getElem? (show (List.replicate (N.length - 2) Sl.no)[i]? = some (Sl.own d) from q)
          rw [List.mem_replicate] at this
          cases this.2
    · cases i with
      | zero => cases q
      | succ i =>
        cases i with
        | zero => cases q
        | succ i =>
          have := List.mem_of_getElem? (show (List.replicate (N.length - 2) Sl.no)[i]? = some (Sl.own d) from q)
          rw [List.mem_replicate] at this
          cases this.2
    · cases d'
      exact hk H'
theorem law_walk {l : PySem.W.OpenLaw} {q : Program} {loose : List Str} {XP : (Str → Option Value) → Heap → Prop} {YP : World → Heap → Prop} {d : DefRec} {K : Params → PySem.W.Frag} {k : Nat} {x : Str} (hn : l.most = some 63) (hdf : d.params.defaults = []) (hr : Room k callerA)
    (hY : ∀ (w : World) (h : Heap), YP w h → (K w.params).In h)
    (F : ∀ (w : World) (mg : Str → Option Value) (fa : Addr) (h : Heap), (K w.params).In h → h.Ns mainGlobals mg → mg d.name = some (.ref fa) →
      ∃ fd : FuncData, (∀ (s : Shared) (u : Value), BindsTo s fd ⟨[u], []⟩ [(x, u)]) ∧ ∀ base : Heap, (K w.params).In base → base.Ns mainGlobals mg → FnOk l.prog w (K w.params) mg base (L2.CX l.prog w) k fa fd [x] (spLaw (K w.params) [])) :
    PySem.W.WalkO q loose XP YP l.row.toRowW d [] (fun f vs => PySem.call f vs) :=
  L2.walk_of (n := 63) (k := k) (x := x) (CX := fun w => L2.CX l.prog w) (sp := fun w => spLaw (K w.params) []) hn (by decide) hdf hr hY F (fun _ _ a ns hl _ hS => ⟨a, ns, rfl, hS, hl, (fun _ hp => absurd hp List.not_mem_nil), fun _ => rfl⟩) fun _ _ _ _ _ ⟨_, _, _, _, _, _, _, _, _, _, _, _, z⟩ => z
end DL
end

section
set_option Elab.async false
set_option linter.all false
set_option autoImplicit false
set_option maxRecDepth 100000
set_option maxHeartbeats 1000000
namespace DL
open PySem PySem.Spec L2
/-! ### callees, bundled -/
def Cal (P : Program) (w : World) (K : PySem.W.Frag) (mg : Str → Option Value) (base : Heap) (x : Str) (k : Nat) (sp : Sp) : Prop :=
  ∃ f fd ps, FnOk P w K mg base (L2.CX P w) k f fd ps sp ∧ mg x = some (.ref f) ∧ PySem.W.keepIn K (.ref f) = true ∧ Binds K fd ps []
def CalM (P : Program) (w : World) (K : PySem.W.Frag) (mg : Str → Option Value) (base : Heap) (C : Addr) (m : Str) (k : Nat) (sp : Sp) : Prop :=
  ∃ f fd ps, FnOk P w K mg base (L2.CX P w) k f fd ps sp ∧ Meth K C m f ∧ Binds K fd ps []
def CalI (P : Program) (w : World) (K : PySem.W.Frag) (mg : Str → Option Value) (base : Heap) (C : Addr) (x : Str) (k : Nat) (sp : Sp) : Prop :=
  ∃ f fd ps, FnOk P w K mg base (L2.CX P w) k f fd ps sp ∧ Mk K C f ∧ mg x = some (.ref C) ∧ Binds K fd ps []
section
variable {X : Cx} {W : Wd} {k : Nat} {x m : Str} {p pos apos : Pos} {e o : Expr} {es : List Expr} {fx : FX} {fo : EX} {fs : EXs} {mm c : Nat} {pl : Sem Bool}
theorem c_call (F : Cal X.prog X.w X.K X.mg X.base x k (spD X.K W fx mm)) (hr : Room k X.A) (hg : Gl X x)
    (ha : PDs X W (e :: es) fs) (hl : ∀ ρ n ds n', fs ρ n = some (.ok ds, n') → ds.length = mm) (hdb : (x == ("__debug__" : Str)) = false := by decide) (he : starEach (e :: es) X.env = (false, eval e X.env) :: starEach es X.env := by rfl) (hpl : (backTo pos (starEach es X.env)).any (·.1) = false := by rfl) :
    PD X W (.Call (.Name x p) (e :: es) [] pos) (eCall fx fs) := by
  obtain ⟨f, fd, ps, h1, h2, h3, h4⟩ := F
  exact d_call h1 hr hg h2 h3 h4 ha hl hdb he hpl
theorem c_call0 (F : Cal X.prog X.w X.K X.mg X.base x k (spD X.K W fx 0)) (hr : Room k X.A) (hg : Gl X x) (hdb : (x == ("__debug__" : Str)) = false := by decide) :
    PD X W (.Call (.Name x p) [] [] pos) (eCall fx eNil) := by
  obtain ⟨f, fd, ps, h1, h2, h3, h4⟩ := F
  exact d_call0 h1 hr hg h2 h3 h4 hdb
theorem c_meth (F : CalM X.prog X.w X.K X.mg X.base (W.cl c) m k (spD X.K W fx (mm + 1))) (hr : Room k X.A) (cl : Cls X.K (W.cl c)) (ho : PD X W o fo) (ha : PDs X W (e :: es) fs) (hl : ∀ ρ n ds n', fs ρ n = some (.ok ds, n') → ds.length = mm)
    (hst : starEach (e :: es) X.env = (false, eval e X.env) :: starEach es X.env := by rfl) (hpl : (backTo pos (starEach es X.env)).any (·.1) = false := by rfl)
    (ht : eval (.Call (.Attribute o m apos) (e :: es) [] pos) X.env = (do
      let ov ← eval o X.env
      standAt apos.atName
      let (f, first) ← holding [ov] (getMethod ov m pl)
      callWith pos f first (backTo pos (starEach (e :: es) X.env)) (backToKw pos (keywordEach [] X.env))) := by rfl) :
    PD X W (.Call (.Attribute o m apos) (e :: es) [] pos) (eMeth c m fx fo fs) := by
  obtain ⟨f, fd, ps, h1, h2, h4⟩ := F
  exact d_meth ho cl h2 h1 hr h4 ha hl hst hpl ht
theorem c_meth0 (F : CalM X.prog X.w X.K X.mg X.base (W.cl c) m k (spD X.K W fx 1)) (hr : Room k X.A) (cl : Cls X.K (W.cl c)) (ho : PD X W o fo)
    (ht : eval (.Call (.Attribute o m apos) [] [] pos) X.env = (do
      let ov ← eval o X.env
      standAt apos.atName
      let (f, first) ← holding [ov] (getMethod ov m pl)
      callWith pos f first (backTo pos (starEach [] X.env)) (backToKw pos (keywordEach [] X.env))) := by rfl) :
    PD X W (.Call (.Attribute o m apos) [] [] pos) (eMeth c m fx fo eNil) := by
  obtain ⟨f, fd, ps, h1, h2, h4⟩ := F
  exact d_meth0 ho cl h2 h1 hr h4 ht
theorem c_make (F : CalI X.prog X.w X.K X.mg X.base (W.cl c) x k (spI X.K W fx c mm)) (hr : Room (k + 1) X.A) (hg : Gl X x)
    (ha : PDs X W (e :: es) fs) (hl : ∀ ρ n ds n', fs ρ n = some (.ok ds, n') → ds.length = mm) (hdb : (x == ("__debug__" : Str)) = false := by decide) (he : starEach (e :: es) X.env = (false, eval e X.env) :: starEach es X.env := by rfl) (hpl : (backTo pos (starEach es X.env)).any (·.1) = false := by rfl) :
    PD X W (.Call (.Name x p) (e :: es) [] pos) (eMake c fx fs) := by
  obtain ⟨f, fd, ps, h1, h2, h3, h4⟩ := F
  exact d_make h2 h1 hr hg h3 h4 ha hl hdb he hpl
/-! ### comparisons as tests -/
variable {a b : Expr} {fa fb : EX} {j : Nat} {q : Pos}
theorem t_of {o : CmpOp} {r : R2} {op : D → D → Option D} (ho : OpR X (compareOp o) r) (hd : Op2 X.K W r op) (ha : PD X W a fa) (hb : PD X W b fb) (hm : behindInMarks o b = false) : PDT X W (.Compare a [o] [b] pos) (tB (e2 op fa fb)) := t_cmp ho hd ha hb hm
theorem q_lt {K : PySem.W.Frag} : Op2 K W (fun x y H Q => (rI0 fun i j => .bl (decide (i < j))) x y H Q ∨ (∃ i j, x = .str i ∧ y = .str j ∧ Q (.bl (decide (i.cps.toList < j.cps.toList))) H)) dLt := by
  intro fr F H σ ρ n x y d v u Q R dx dy h k
  unfold dLt at h
  split at h
  · cases dx; cases dy; cases h
    exact .inl ⟨_, _, rfl, rfl, k F H _ R (Sub.refl _) (.bl _)⟩
  · cases dx; cases dy; cases h
    exact .inr ⟨_, _, rfl, rfl, k F H _ R (Sub.refl _) (.bl _)⟩
  · cases h
theorem q_eq {K : PySem.W.Frag} : Op2 K W (rEqD K) dEq := by
  intro fr F H σ ρ n x y d v u Q R dx dy h k
  unfold dEq at h
  split at h
  · cases h
    obtain ⟨p, q, h1, h2, h3, h4, rfl⟩ := dEqB_ok ‹_›
    exact ⟨p, q, dp_of R.core.sub dx h1, dp_of R.core.sub dy h2, h3, h4, k F H _ R (Sub.refl _) (.bl _)⟩
  · cases h
theorem q_ne {K : PySem.W.Frag} : Op2 K W (rNeD K) dNe := by
  intro fr F H σ ρ n x y d v u Q R dx dy h k
  unfold dNe at h
  split at h
  · cases h
    obtain ⟨p, q, h1, h2, h3, h4, rfl⟩ := dEqB_ok ‹_›
    exact ⟨p, q, dp_of R.core.sub dx h1, dp_of R.core.sub dy h2, h3, h4, k F H _ R (Sub.refl _) (.bl _)⟩
  · cases h
theorem q_scrNil {K : PySem.W.Frag} : Op2 K W (rEqD K) (dScrNil W) := by
  intro fr F H σ ρ n x y d v u Q R dx dy h k
  unfold dScrNil at h
  split at h
  · cases h
    cases dx with
    | scr h1 =>
      cases dy with
      | lst h2 h3 =>
        cases h3
        refine ⟨.list (intsPy W.ns), .list [], .lst (R.core.sub.sqL h1) (dpAll_ints _), .lst (SqL.of (R.core.sub _ _ h2)) .nil, shaped_ints _, by decide, ?_⟩
        have : PyData.eqv (.list (intsPy W.ns)) (.list []) = W.ns.isEmpty := by
          unfold PyData.eqv
          cases e : W.ns with
          | nil => rfl
          | cons i r => rfl
        rw [this]
        exact k F H _ R (Sub.refl _) (.bl _)
  · cases h
theorem q_CI {K : PySem.W.Frag} (p : Int → Int → Bool) : Op2 K W (rI0 fun i j => .bl (p i j)) (dCI p) := q_I0 fun _ _ _ _ _ _ => .bl _
theorem t_lt (ha : PD X W a fa) (hb : PD X W b fb) : PDT X W (.Compare a [.Lt] [b] pos) (tB (e2 dLt fa fb)) := t_cmp (op_lt.or op_lt_str) q_lt ha hb (nomark _)
theorem t_le (ha : PD X W a fa) (hb : PD X W b fb) : PDT X W (.Compare a [.LtE] [b] pos) (tB (e2 dLe fa fb)) := t_cmp op_le (q_CI _) ha hb (nomark _)
theorem t_gt (ha : PD X W a fa) (hb : PD X W b fb) : PDT X W (.Compare a [.Gt] [b] pos) (tB (e2 dGt fa fb)) := t_cmp op_gt (q_CI _) ha hb (nomark _)
theorem t_ge (ha : PD X W a fa) (hb : PD X W b fb) : PDT X W (.Compare a [.GtE] [b] pos) (tB (e2 dGe fa fb)) := t_cmp op_ge (q_CI _) ha hb (nomark _)
theorem t_eq (hu : X.A.units + 64 < cLine) (ha : PD X W a fa) (hb : PD X W b fb) : PDT X W (.Compare a [.Eq] [b] pos) (tB (e2 dEq fa fb)) := t_cmp (op_eqD hu) q_eq ha hb (nomark _)
theorem t_ne (hu : X.A.units + 64 < cLine) (ha : PD X W a fa) (hb : PD X W b fb) : PDT X W (.Compare a [.NotEq] [b] pos) (tB (e2 dNe fa fb)) := t_cmp (op_neD hu) q_ne ha hb (nomark _)
theorem t_scrNil (hu : X.A.units + 64 < cLine) (ha : PD X W a fa) (hb : PD X W b fb) : PDT X W (.Compare a [.Eq] [b] pos) (tB (e2 (dScrNil W) fa fb)) := t_cmp (op_eqD hu) q_scrNil ha hb (nomark _)
theorem t_isN (ha : PD X W a fa) : PDT X W (.Compare a [.Is] [.Constant .none j q] pos) (tB (e1 (fun d => some (.bl (isNon d))) fa)) := imp_T (pt_cmp (pc_isN ha) rfl) fun σ H Q ⟨fr, F, ρ, n, r, n', R, e, k⟩ => by
  rcases r with z | b
  · refine R.dE (g := fun x => M.opt (some (D.bl (isNon x)))) ?_ k fun _ _ _ _ _ _ h _ _ _ => (M.opt_err h).elim
    rcases M.bind_err e with h | ⟨_, _, _, h⟩
    · exact h
    · exact (M.opt_err h).elim
  obtain ⟨x, n1, h1, h⟩ := M.bind_ok e
  obtain ⟨y, n2, h3, h4⟩ := M.bind_ok h1
  obtain ⟨h5, h6⟩ := M.opt_ok h4
  obtain ⟨h7, h8⟩ := M.opt_ok h
  subst h6
  cases h5
  cases h7
  subst h8
  exact ⟨fr, F, ρ, n, .ok y, _, R, h3, fun F1 H1 v R1 s1 d1 => ⟨_, rfl, by rw [isNon_of d1]; exact k F1 H1 R1 s1⟩⟩
theorem t_notN (ha : PD X W a fa) : PDT X W (.Compare a [.IsNot] [.Constant .none j q] pos) (tB (e1 (fun d => some (.bl (!isNon d))) fa)) := imp_T (pt_cmp (pc_notN ha) rfl) fun σ H Q ⟨fr, F, ρ, n, r, n', R, e, k⟩ => by
  rcases r with z | b
  · refine R.dE (g := fun x => M.opt (some (D.bl (!isNon x)))) ?_ k fun _ _ _ _ _ _ h _ _ _ => (M.opt_err h).elim
    rcases M.bind_err e with h | ⟨_, _, _, h⟩
    · exact h
    · exact (M.opt_err h).elim
  obtain ⟨x, n1, h1, h⟩ := M.bind_ok e
  obtain ⟨y, n2, h3, h4⟩ := M.bind_ok h1
  obtain ⟨h5, h6⟩ := M.opt_ok h4
  obtain ⟨h7, h8⟩ := M.opt_ok h
  subst h6
  cases h5
  cases h7
  subst h8
  exact ⟨fr, F, ρ, n, .ok y, _, R, h3, fun F1 H1 v R1 s1 d1 => ⟨_, rfl, by rw [isNon_of d1]; exact k F1 H1 R1 s1⟩⟩
end
end DL
end

section
set_option Elab.async false
set_option linter.all false
set_option autoImplicit false
set_option maxRecDepth 100000
namespace DL
open PySem PySem.Spec L2
/-! ### isinstance -/
def tyN : D → Option String
  | .non => some "NoneType"
  | .bl _ => some "bool"
  | .int _ => some "int"
  | .str _ => some "str"
  | .tup _ => some "tuple"
  | .lst _ => some "list"
  | .dic _ _ => some "dict"
  | _ => none
theorem ty_of {K : PySem.W.Frag} {W : Wd} {dr : Option Addr} {F H : Hp} (s : Sub F H) {v : V} {d : D} {T : String} (h : Den K W dr F v d) (e : tyN d = some T) : TyX K H v (.type T) := by
  cases h with
  | non => cases e; exact .base .non
  | bl b => cases e; exact .base (.bl b)
  | int b => cases e; exact .base (.int b)
  | str b => cases e; exact .base (.str b)
  | tup h1 h2 =>
    cases e
    rcases s.sqT h1 with h | ⟨o, its, n, hk, hc, _⟩
    · rcases h with h | ⟨o, h⟩
      · exact .base (.tup h)
      · exact .fTuple h
    · exact .kTuple hk hc
  | lst h1 h2 => cases e; exact .base (.lst (s _ _ h1))
  | scr h1 => cases e
  | dic h0 h1 h2 =>
    cases e
    rcases s.rd h1 with h | ⟨o, h⟩
    · exact .base (.dK h)
    · exact .fDict h
  | dit h0 h1 h2 => cases e
  | obj => cases e
  | drw => cases e
def dIsi (T : String) (d : D) : Option D := match tyN d with
  | some t => (match kitB t T with | some b => some (.bl b) | none => none)
  | none => none
section
variable {X : Cx} {W : Wd} {x : Str} {p tp pos : Pos} {e : Expr} {f : EX}
theorem d_isi {T : String} {Tn : Str} (hg : Gl X "isinstance") (hm : X.mg "isinstance" = none) (hgT : Gl X Tn) (hmT : X.mg Tn = none) (hvT : bootBuiltins Tn = some (.type T)) (ha : PD X W e f) (hn : Tn ≠ "__name__" := by decide) (hd : (Tn == ("__debug__" : Str)) = false := by decide)
    (he : starEach [e, .Name Tn tp] X.env = (false, eval e X.env) :: starEach [.Name Tn tp] X.env := by rfl) (he2 : starEach [.Name Tn tp] X.env = (false, eval (.Name Tn tp) X.env) :: starEach [] X.env := by rfl) (hpl : (backTo pos (starEach [.Name Tn tp] X.env)).any (·.1) = false := by rfl) :
    PD X W (.Call (.Name "isinstance" p) [e, .Name Tn tp] [] pos) (e1 (dIsi T) f) :=
  imp_E (pe_callB call_isi hg hm rfl (pa_cons ha (pa_cons (pe_bltn (v := .ty T) hgT hmT hvT rfl hn hd) pa_nil he2) he) (by decide) (by decide) he hpl) fun σ H Q ⟨fr, F, ρ, n, r, n', R, ev, k⟩ => by
    rcases r with z | d
    · exact R.dE1 ev k
    obtain ⟨y, n1, h1, h2⟩ := M.bind_ok ev
    obtain ⟨h3, h4⟩ := M.opt_ok h2
    subst h4
    unfold dIsi at h3
    split at h3
    · split at h3
      · cases h3
        exact ⟨fr, F, ρ, n, .ok y, _, R, h1, fun F1 H1 v R1 s1 d1 => ⟨v, .ty T, _, _, _, rfl, .ty T, ty_of R1.core.sub d1 ‹_›, kit_ty ‹_›, k F1 H1 _ R1 s1 (.bl _)⟩⟩
      · cases h3
    · cases h3
end
/-! ### a dict of the module with text keys -/
def flDB : D → Value → Bool
  | .non, .none => true
  | .bl a, .bool b => a == b
  | .int i, .int j _ => i == j
  | .str x, .str y _ => x == y
  | _, _ => false
def allDB : List D → List Value → Bool
  | [], [] => true
  | d :: ds, v :: vs => flDB d v && allDB ds vs
  | _, _ => false
def relDB (K : PySem.W.Frag) (d : D) (u : Value) : Bool := match d, u with
  | .tup ds, .ref a => (match K.lookup a with
    | some ⟨.type c, _, .seq its _, _⟩ => decide (c = "tuple") && (decide (its.size ≤ 1000) && allDB ds its.toList)
    | _ => false)
  | d, u => flDB d u
def tabDB (K : PySem.W.Frag) (a : Addr) (tbl : List (Str × D)) : Bool := tbl.all fun q => match PySem.W.nsIn K a q.1 with
  | some (some u) => relDB K q.2 u
  | _ => false
theorem flDB_ok {K : PySem.W.Frag} {W : Wd} {d : D} {u : Value} (h : flDB d u = true) : ∃ v, RelV v u ∧ ∀ dr F, Den K W dr F v d := by
  unfold flDB at h
  split at h
  · exact ⟨.non, rfl, fun _ _ => .non⟩
  · rw [eq_of_beq h]; exact ⟨.bl _, rfl, fun _ _ => .bl _⟩
  · rw [eq_of_beq h]; exact ⟨.int _, ⟨_, rfl⟩, fun _ _ => .int _⟩
  · rw [eq_of_beq h]; exact ⟨.str _, ⟨_, rfl⟩, fun _ _ => .str _⟩
  · cases h
theorem allDB_ok {K : PySem.W.Frag} {W : Wd} : ∀ {ds : List D} {us : List Value}, allDB ds us = true → ∃ vs, Vals vs us ∧ ∀ dr F, Dens K W dr F vs ds
  | [], [], _ => ⟨[], .nil, fun _ _ => .nil⟩
  | d :: ds, u :: us, h => by
    have h' : (flDB d u && allDB ds us) = true := h
    rw [Bool.and_eq_true] at h'
    obtain ⟨v, r, e⟩ := flDB_ok (K := K) (W := W) h'.1
    obtain ⟨vs, rs, es⟩ := allDB_ok (K := K) (W := W) h'.2
    exact ⟨v :: vs, .cons r rs, fun dr F => .cons (e dr F) (es dr F)⟩
  | [], _ :: _, h => by cases h
  | _ :: _, [], h => by cases h
theorem relDB_ok {K : PySem.W.Frag} {W : Wd} {d : D} {u : Value} (h : relDB K d u = true) : ∃ v, RelV v u ∧ ∀ dr F, Den K W dr F v d := by
  unfold relDB at h
  split at h
  · split at h
    · rename_i c od its n sl q
      rw [Bool.and_eq_true, Bool.and_eq_true] at h
      obtain ⟨h1, h2, h3⟩ := h
      have hc := of_decide_eq_true h1
      subst hc
      obtain ⟨vs, rs, es⟩ := allDB_ok (K := K) (W := W) h3
      exact ⟨.ref _, rfl, fun dr F => .tup (.inr ⟨_, its, n, q, rfl, rfl, by have := of_decide_eq_true h2; rw [sizeLine_eq]; omega, rs⟩) (es dr F)⟩
    · cases h
  · exact flDB_ok h
structure KTab (K : PySem.W.Frag) (w : World) (W : Wd) (a : Addr) (tbl : List (Str × D)) : Prop where
  kd : ∃ es n, KDict K w a es n
  yes : ∀ z x, tbl.lookup z = some x → ∃ u v, PySem.W.nsIn K a z = some (some u) ∧ RelV v u ∧ ∀ dr F, Den K W dr F v x
  no : ∀ z, tbl.lookup z = none → PySem.W.nsIn K a z = some none
theorem lk_mem {z : Str} {x : D} : ∀ {tbl : List (Str × D)}, tbl.lookup z = some x → (z, x) ∈ tbl
  | (k, y) :: r, h => by
    rw [List.lookup_cons] at h
    cases q : z == k with
    | true =>
      rw [q] at h
      injection h with h
      rw [← h, eq_of_beq q]
      exact List.mem_cons_self
    | false =>
      rw [q] at h
      exact List.mem_cons_of_mem _ (lk_mem h)
theorem lk_no {z : Str} : ∀ {tbl : List (Str × D)}, tbl.lookup z = none → ∀ k ∈ tbl.map (·.1), k ≠ z
  | [], _, _, h => by cases h
  | (k, y) :: r, h, k', hk => by
    rw [List.lookup_cons] at h
    cases q : z == k with
    | true => rw [q] at h; cases h
    | false =>
      rw [q] at h
      rcases List.mem_cons.mp hk with e | e
      · subst e
        intro e
        rw [e] at q
        simp at q
      · exact lk_no h k' e
theorem ktab_of {K : PySem.W.Frag} {w : World} {W : Wd} {a : Addr} {tbl : List (Str × D)} (h1 : He.dicW K a = some (He.keysIn w.params (tbl.map (·.1)))) (h2 : tabDB K a tbl = true) : KTab K w W a tbl := by
  refine ⟨He.dicW_ok h1, fun z x e => ?_, fun z e => ?_⟩
  · have h3 := List.all_eq_true.mp h2 _ (lk_mem e)
    cases q : PySem.W.nsIn K a z with
    | none => rw [q] at h3; cases h3
    | some r =>
      rw [q] at h3
      cases r with
      | none => cases h3
      | some u =>
        obtain ⟨v, r, hd⟩ := relDB_ok (W := W) h3
        exact ⟨u, v, rfl, r, hd⟩
  · obtain ⟨es, n, T⟩ := He.dicW_ok h1
    unfold He.dicW at h1
    rw [T.at_] at h1
    have hk : es.toList.map He.keyOf = He.keysIn w.params (tbl.map (·.1)) := by
      simp [T.low] at h1
      exact h1
    have key : ∀ en ∈ es.toList, ∃ k t, en.key = .str k t ∧ k ≠ z := fun en hen => by
      have : He.keyOf en ∈ He.keysIn w.params (tbl.map (·.1)) := by rw [← hk]; exact List.mem_map_of_mem hen
      unfold He.keysIn at this
      obtain ⟨k, hk1, hk2⟩ := List.mem_map.mp this
      unfold He.keyOf at hk2
      split at hk2
      · rename_i x t q
        injection hk2 with hk2
        injection hk2 with hk2 hk3
        exact ⟨x, t, q, by rw [← hk2]; exact lk_no e k hk1⟩
      · cases hk2
    unfold PySem.W.nsIn
    rw [T.at_]
    have f1 : es.toList.find? (·.key.isStr z) = none := List.find?_eq_none.mpr fun en hen => by
      obtain ⟨k, t, q, hne⟩ := key en hen
      rw [q]
      show ¬ ((k == z) = true)
      exact fun h => hne (eq_of_beq h)
    have f2 : es.toList.any (·.refKey) = false := List.any_eq_false.mpr fun en hen => by
      obtain ⟨k, t, q, hne⟩ := key en hen
      unfold DictEntry.refKey
      rw [q]
      simp
    show (match es.toList.find? (·.key.isStr z) with | some e => some (some e.val) | none => if es.toList.any (·.refKey) then none else some none) = some none
    rw [f1, f2]
    rfl
section
variable {X : Cx} {W : Wd} {x : Str} {p pos : Pos} {e : Expr} {f : EX} {a : Addr} {tbl : List (Str × D)}
def dInK (tbl : List (Str × D)) : D → Option D
  | .str z => some (.bl (tbl.lookup z).isSome)
  | _ => none
def dNiK (tbl : List (Str × D)) : D → Option D
  | .str z => some (.bl (!(tbl.lookup z).isSome))
  | _ => none
def dIxK (tbl : List (Str × D)) : D → Option D
  | .str z => tbl.lookup z
  | _ => none
theorem d_kd {r : R2} {op : D → Option D} {fe : EX} {tn : TE} (hn : tn = tC (.ref a)) (hd : ∀ (H : Hp) (v : V) (d y : D) (Q : VK) (fr : Fr) (F : Hp), Den X.K W fr.dr F v d → op d = some y → (∀ w, (∀ dr F, Den X.K W dr F w y) → Q w H) → r v (.ref a) H Q) {σ : St} {H : Hp} {Q : VK} (h : tD X W (e1 op fe) σ H Q) : tOp r (tD X W fe) tn σ H Q := by
  subst hn
  obtain ⟨fr, F, ρ, n, r, n', R, e, k⟩ := h
  rcases r with z | d
  · exact R.dE1 e k
  obtain ⟨y, n1, h1, h2⟩ := M.bind_ok e
  obtain ⟨h3, h4⟩ := M.opt_ok h2
  subst h4
  exact ⟨fr, F, ρ, n, .ok y, _, R, h1, fun F1 H1 v R1 s1 d1 => hd H1 v y d Q fr F1 d1 h3 fun w hw => k F1 H1 w R1 s1 (hw _ _)⟩
theorem d_inK (T : KTab X.K X.w W a tbl) (hg : Gl X x) (hm : X.mg x = some (.ref a)) (he : PD X W e f) (hd : (x == ("__debug__" : Str)) = false := by decide) (hb : behindInMarks .In (.Name x p) = false := by rfl) : PD X W (.Compare e [.In] [.Name x p] pos) (e1 (dInK tbl) f) := by
  obtain ⟨es, n, D⟩ := T.kd
  refine imp_E (pe_cmpR (op_in_kd D) he (pe_glob (v := .ref a) hg hm rfl hd) hb) fun σ H Q h => d_kd rfl (fun H v d y Q fr F dv ey k => ?_) h
  unfold dInK at ey
  split at ey
  · rename_i z
    cases dv; cases ey
    cases q : tbl.lookup z with
    | none => exact ⟨z, none, rfl, rfl, T.no z q, k _ fun _ _ => by rw [q]; exact .bl _⟩
    | some y =>
      obtain ⟨u, v, h1, h2, h3⟩ := T.yes z y q
      exact ⟨z, some u, rfl, rfl, h1, k _ fun _ _ => by rw [q]; exact .bl _⟩
  · cases ey
theorem d_niK (T : KTab X.K X.w W a tbl) (hg : Gl X x) (hm : X.mg x = some (.ref a)) (he : PD X W e f) (hd : (x == ("__debug__" : Str)) = false := by decide) (hb : behindInMarks .NotIn (.Name x p) = false := by rfl) : PD X W (.Compare e [.NotIn] [.Name x p] pos) (e1 (dNiK tbl) f) := by
  obtain ⟨es, n, D⟩ := T.kd
  refine imp_E (pe_cmpR (op_notIn_kd D) he (pe_glob (v := .ref a) hg hm rfl hd) hb) fun σ H Q h => d_kd rfl (fun H v d y Q fr F dv ey k => ?_) h
  unfold dNiK at ey
  split at ey
  · rename_i z
    cases dv; cases ey
    cases q : tbl.lookup z with
    | none => exact ⟨z, none, rfl, rfl, T.no z q, k _ fun _ _ => by rw [q]; exact .bl _⟩
    | some y =>
      obtain ⟨u, v, h1, h2, h3⟩ := T.yes z y q
      exact ⟨z, some u, rfl, rfl, h1, k _ fun _ _ => by rw [q]; exact .bl _⟩
  · cases ey
theorem d_ixK (T : KTab X.K X.w W a tbl) (hg : Gl X x) (hm : X.mg x = some (.ref a)) (he : PD X W e f) (hd : (x == ("__debug__" : Str)) = false := by decide) (hs : PlainIx e := by exact fun _ _ => rfl) : PD X W (.Subscript (.Name x p) e pos) (e1 (dIxK tbl) f) := by
  refine imp_E (pe_ix ix_kdict (pe_glob (v := .ref a) hg hm rfl hd) he hs) fun σ H Q h => ?_
  obtain ⟨fr, F, ρ, n, r, n', R, e, k⟩ := h
  rcases r with z | d
  · exact R.dE1 e k
  obtain ⟨y, n1, h1, h2⟩ := M.bind_ok e
  obtain ⟨h3, h4⟩ := M.opt_ok h2
  subst h4
  refine ⟨fr, F, ρ, n, .ok y, _, R, h1, fun F1 H1 v R1 s1 d1 => ?_⟩
  unfold dIxK at h3
  split at h3
  · cases d1
    obtain ⟨es, m, D⟩ := T.kd
    obtain ⟨u, v, g1, g2, g3⟩ := T.yes _ _ h3
    exact ⟨a, _, v, rfl, rfl, ⟨es, m, u, D.at_, D.lit, g1, g2⟩, k F1 H1 v R1 s1 (g3 _ _)⟩
  · cases h3
end
end DL
end

section
set_option Elab.async false
set_option linter.all false
set_option autoImplicit false
set_option maxRecDepth 100000
namespace DL
open PySem PySem.Spec L2 PyProof.Rows
section
variable {prog : Program} {w : World} {A : Around} {E : Value → Shared → Prop} {s : Shared}
theorem sliceApplied_rev {sl : Addr} {vs : Value} {n : Nat} {Q : Int × Int × Nat → Shared → Prop} (hs : s.heap.IsSliceOf sl .none .none vs) (ps : IsPart vs (some (-1)))
    (h : Q (((n : Int) - 1), -1, n) s) : wpAny (model prog w) A (Builtin.Slice.sliceApplied (.ref sl) (pure (n : Int))) Q E s := by
  obtain ⟨os, hos, hcs, hds⟩ := id hs
  unfold Builtin.Slice.sliceApplied Builtin.Slice.sliceFields
  refine wpAny_bind (wpAny_bind (wpAny_field hos hds (x := .none) rfl (wpAny_bind (wpAny_field hos hds (x := .none) rfl (wpAny_bind (wpAny_field hos hds (x := vs) rfl (wpAny_pure ?_)))))))
  refine wpAny_bind (HT.slicePart_ ps ?_)
  show wpAny _ _ (if ((-1 : Int) == 0) = true then _ else _) _ _ s
  rw [if_neg (by decide)]
  refine wpAny_bind (HT.slicePart_ .none (wpAny_bind (HT.slicePart_ .none (wpAny_bind (wpAny_pure ?_)))))
  show wpAny _ _ (pure ((n : Int) - 1, (-1 : Int), Builtin.Slice.slicePlaces ((n : Int) - 1) (-1) (-1))) _ _ s
  have e : Builtin.Slice.slicePlaces ((n : Int) - 1) (-1) (-1) = n := by
    unfold Builtin.Slice.slicePlaces
    rw [if_neg (by omega), show (-(-1 : Int)) = 1 from rfl, Int.ediv_one]
    split <;> omega
  rw [e]
  exact wpAny_pure h
theorem pick_rev (xs : Array Value) : ((List.range xs.size).filterMap fun (m : Nat) => xs[(((xs.size : Int) - 1) + (m : Int) * (-1)).toNat]?).toArray = xs.toList.reverse.toArray := by
  have e : (fun (m : Nat) => xs[(((xs.size : Int) - 1) + (m : Int) * (-1)).toNat]?) = (fun k => xs[k]?) ∘ fun m => xs.size - 1 - m := by
    funext m
    have : (((xs.size : Int) - 1) + (m : Int) * (-1)).toNat = xs.size - 1 - m := by omega
    rw [this]
    rfl
  rw [e, ← List.filterMap_map, PySem.W.krv_range, List.filterMap_reverse, PySem.W.krv_all]
theorem getItem_tuple_rev {t sl : Addr} {items : Array Value} {vs : Value} {Q : Value → Shared → Prop} (ht : IsTup s.heap t items) (hs : s.heap.IsSliceOf sl .none .none vs) (ps : IsPart vs (some (-1)))
    (h : Q (.ref s.heap.objs.size) { s with heap := s.heap.push { cls := .type "tuple", data := .seq items.toList.reverse.toArray } })
    (hsz : items.size ≤ sizeLine) : wpAny (model prog w) A (getItem (.ref t) (.ref sl)) Q E s := by
  have htake : sizeOk (.seq items.toList.reverse.toArray) := by
    show items.toList.reverse.toArray.size ≤ sizeLine
    rw [List.size_toArray, List.length_reverse, Array.length_toList]
    exact hsz
  obtain ⟨os, hos, hcs, hds⟩ := id hs
  have hTs : s.TypeIs (.ref sl) "slice" := ⟨os, hos, hcs⟩
  unfold getItem
  try with_reducible refine wpAny_holding ?_
  first | refine wpAny_bind (wpAny_pure ?_) | skip
  refine wpAny_bind (wpAny_sequenceKey ht.typeIs (by decide) ?_)
  refine wpAny_bind (wpAny_callSpecial?_slot (name := Str.ofString "__getitem__") ht.typeIs PyProof.Rows.slot_tuple_getitem
    (wpAny_call_entry PyProof.Rows.slot_tuple_getitem ht.typeIs entry_tuple_getitem ?_ (args_tuple_getitem _ _)))
  show wpAny _ _ (Builtin.Tuple.tupleItemsOf (.ref t) >>= _) _ _ s
  refine wpAny_bind (tupleItemsOf_ ht ?_)
  refine wpAny_bind (wpAny_typeOf hTs ?_)
  rw [if_pos (by decide)]
  refine wpAny_bind (sliceApplied_rev hs ps ?_)
  have hno : ¬ ((((items.size : Int) - 1) == 0 && (-1 : Int) == 1 && items.size == items.size) = true) := by
    intro q
    rw [Bool.and_eq_true, Bool.and_eq_true] at q
    exact absurd q.1.2 (by decide)
  show wpAny _ _ (if (((items.size : Int) - 1) == 0 && (-1 : Int) == 1 && items.size == items.size) = true then _ else _) _ _ s
  rw [if_neg hno, pick_rev]
  first
    | exact wpAny_bind (m := Builtin.Tuple.tupleExact _) (wpAny_newObj_type (wpAny_pure ⟨_, rfl, wpAny_pure h⟩) htake)
    | exact wpAny_bind (m := Builtin.Tuple.tupleExact _) (wpAny_newObj_type (wpAny_bind (wpAny_pure (wpAny_pure ⟨_, rfl, wpAny_pure h⟩))) htake)
    | exact wpAny_bind (wpAny_bind (m := Builtin.Tuple.tupleExact _) (wpAny_newObj_type (wpAny_pure (wpAny_pure ⟨_, rfl, wpAny_pure h⟩)) htake))
    | exact wpAny_bind (wpAny_bind (m := Builtin.Tuple.tupleExact _) (wpAny_newObj_type (wpAny_pure ⟨_, rfl, wpAny_pure h⟩) htake))
end
section
variable {X : Cx} {W : Wd}
def tRevQ (K : PySem.W.Frag) (te : TE) : TE := fun σ H Q => te σ H fun x H1 => ∃ a xs, x = .ref a ∧ ((SqL K H1 a xs ∧ ∀ p, H1 p = none → Q (.ref p) (upd H1 p (.lst xs.reverse))) ∨ (SqT K H1 a xs ∧ ∀ p, H1 p = none → Q (.ref p) (upd H1 p (.tup xs.reverse))))
theorem pe_revQ {e : Expr} {te : TE} {k : Nat} {p1 p2 p3 pos : Pos} (he : PE X e te) : PE X (.Subscript e (.Slice none none (some (.UnaryOp .USub (.Constant (.int 1) k p1) p2)) p3) pos) (tRevQ X.K te) := by
  refine ⟨fun pins s σ H Q I h => ?_⟩
  refine Subscript_ (thn (he.run pins s σ H _ I h) fun v s1 ⟨x, H1, I1, r1, q1⟩ => ?_)
  obtain ⟨a, xs, ex, hq⟩ := q1
  subst ex
  cases r1
  have hst : PO X (some (.UnaryOp .USub (.Constant (.int 1) k p1) p2)) (tPart (tUn (rU fun i => .int (-i)) (tC (.int 1)))) := po_some (pe_un un_neg pe_int)
  refine wpAny_Slice (thn (po_none.run pins s1 σ H1 (fun o H2 => o = none ∧ H2 = H1) I1 ⟨rfl, rfl⟩) fun vl s2 ⟨l, H2, I2, pl, el, e2⟩ => ?_)
  subst el e2
  refine thn (po_none.run pins s2 σ H2 (fun o H3 => o = none ∧ H3 = H2) I2 ⟨rfl, rfl⟩) fun vu s3 ⟨u, H3, I3, pu, eu, e3⟩ => ?_
  subst eu e3
  refine thn (hst.run pins s3 σ H3 (fun o H4 => o = some (-1) ∧ H4 = H3) I3 ⟨1, rfl, -1, rfl, rfl, rfl⟩) fun vs s4 ⟨o, H4, I4, ps, eo, e4⟩ => ?_
  subst eo e4
  have I5 : Inv X pins σ H4 { s4 with heap := s4.heap.push { cls := .type "slice", data := .fields #[vl, vu, vs] } } := I4.kept (t' := s4.toks) fun b ob q => Heap.get?_push_of_some _ q
  show wpAny (model X.prog X.w) X.A (subscriptTail e (.Slice none none (some (.UnaryOp .USub (.Constant (.int 1) k p1) p2)) p3) (.ref a) (.ref s4.heap.objs.size)) (EP X pins σ Q) X.xe { s4 with heap := s4.heap.push { cls := .type "slice", data := .fields #[vl, vu, vs] } }
  rcases hq with ⟨hx, q⟩ | ⟨hx, q⟩
  · obtain ⟨its, r, ht, hz⟩ := I5.list hx
    have hlen := r.length
    refine tail_any (ops := [.ref a, .ref s4.heap.objs.size]) ht.isList.typeIs (PySem.slot_list_getitem.lookup) ?_ (by with_unfolding_all rfl)
    refine wpAny_getItem_list_slice ht.isList (Heap.IsSliceOf.new _ vl vu vs) pl pu ps (by decide) ?_ (by rw [List.size_toArray]; omega)
    rw [PySem.W.krv_pick]
    refine ⟨.ref _, _, I5.laid (t' := s4.toks) (o := .lst xs.reverse) (fun b ob q => Heap.get?_push_of_some _ q) (Nat.le_refl _) ?_, rfl, q _ (I5.hok.fresh (Nat.le_refl _))⟩
    exact ⟨by rw [List.length_reverse]; exact hz, _, 0, r.reverse, Heap.get?_push_size _ rfl⟩
  · obtain ⟨its, r, ht, hz⟩ := I5.tuple hx
    have hlen := r.length
    cases pl
    cases pu
    refine tail_any (ops := [.ref a, .ref s4.heap.objs.size]) ht.typeIs (PyProof.Rows.slot_tuple_getitem.lookup) ?_ (by with_unfolding_all rfl)
    refine getItem_tuple_rev ht (Heap.IsSliceOf.new _ .none .none vs) ps ?_ (by rw [List.size_toArray]; omega)
    refine ⟨.ref _, _, I5.laid (t' := s4.toks) (o := .tup xs.reverse) (fun b ob q => Heap.get?_push_of_some _ q) (Nat.le_refl _) ?_, rfl, q _ (I5.hok.fresh (Nat.le_refl _))⟩
    exact ⟨by rw [List.length_reverse]; exact hz, _, r.reverse, IsTup.new _ _⟩
def dRev : D → Option D
  | .tup xs => some (.tup xs.reverse)
  | .lst xs => some (.lst xs.reverse)
  | _ => none
theorem Dens.rev {K : PySem.W.Frag} {W : Wd} {dr : Option Addr} {F : Hp} : ∀ {vs : List V} {ds : List D}, Dens K W dr F vs ds → Dens K W dr F vs.reverse ds.reverse
  | _, _, .nil => .nil
  | _, _, .cons h1 h2 => by
    rw [List.reverse_cons, List.reverse_cons]
    exact Dens.append (Dens.rev h2) (.cons h1 .nil)
theorem d_rev {e : Expr} {f : EX} {k : Nat} {p1 p2 p3 pos : Pos} (he : PD X W e f) : PD X W (.Subscript e (.Slice none none (some (.UnaryOp .USub (.Constant (.int 1) k p1) p2)) p3) pos) (e1 dRev f) := imp_E (pe_revQ he) fun σ H Q ⟨fr, F, ρ, n, r, n', R, ev, k⟩ => by
  rcases r with z | d
  · exact R.dE1 ev k
  obtain ⟨y, n1, h1, h2⟩ := M.bind_ok ev
  obtain ⟨h3, h4⟩ := M.opt_ok h2
  subst h4
  refine ⟨fr, F, ρ, n, .ok y, _, R, h1, fun F1 H1 v R1 s1 d1 => ?_⟩
  unfold dRev at h3
  split at h3
  · cases h3
    cases d1 with
    | tup g1 g2 => exact ⟨_, _, rfl, .inr ⟨R1.core.sub.sqT g1, put_tup R1 g2.rev fun F' H' v R' s' d' => k F' H' v R' (s1.trans s') d'⟩⟩
  · cases h3
    cases d1 with
    | lst g1 g2 => exact ⟨_, _, rfl, .inl ⟨SqL.of (R1.core.sub _ _ g1), put_lst R1 g2.rev fun F' H' v R' s' d' => k F' H' v R' (s1.trans s') d'⟩⟩
  · cases h3
end
end DL
end

section
set_option Elab.async false
set_option linter.all false
set_option autoImplicit false
set_option maxRecDepth 100000
namespace DL
open PySem PySem.Spec L2 PyProof.Rows
/-! ### reading a dict -/
def keyD : D → Option Key
  | .int i => some (.inl i)
  | .str x => some (.inr x)
  | _ => none
theorem key_of {K : PySem.W.Frag} {W : Wd} {dr : Option Addr} {F : Hp} {v : V} {d : D} {k : Key} (h : Den K W dr F v d) (e : keyD d = some k) : v = kV k := by
  unfold keyD at e
  split at e
  · cases e; cases h; rfl
  · cases e; cases h; rfl
  · cases e
section
variable {κ : Type} [DecidableEq κ]
def valD : List κ → List D → κ → Option D
  | x :: xs, d :: ds, k => if x = k then some d else valD xs ds k
  | _, _, _ => none
theorem val_zip {K : PySem.W.Frag} {W : Wd} {dr : Option Addr} {F : Hp} {k : κ} {d : D} : ∀ {ks : List κ} {us : List V} {ds : List D}, ks.length = us.length → Dens K W dr F us ds → valD ks ds k = some d → ∃ v, valV (ks.zip us) k = some v ∧ Den K W dr F v d
  | [], _, _, _, _, h => by cases h
  | x :: xs, [], _, l, _, h => by cases l
  | x :: xs, u :: us, _, l, .cons h1 h2, h => by
    unfold valD at h
    split at h
    · rename_i q
      cases h
      exact ⟨u, by rw [List.zip_cons_cons]; exact valV_pos q, h1⟩
    · rename_i q
      obtain ⟨v, e1, e2⟩ := val_zip (ks := xs) (by simpa using l) h2 h
      exact ⟨v, by rw [List.zip_cons_cons, valV_neg q]; exact e1, e2⟩
def dkKs (ks : List κ) (k : κ) : List κ := if (ks.any fun x => decide (x = k)) = true then ks else ks ++ [k]
def dkDs {α : Type} (ks : List κ) (ds : List α) (k : κ) (d : α) : List α := if (ks.any fun x => decide (x = k)) = true then List.zipWith (fun x e => if x = k then d else e) ks ds else ds ++ [d]
theorem any_zip {k : κ} : ∀ {ks : List κ} {us : List V}, ks.length = us.length → ((ks.zip us).any fun kv => decide (kv.1 = k)) = ks.any fun x => decide (x = k)
  | [], _, _ => by simp
  | x :: xs, [], l => by cases l
  | x :: xs, u :: us, l => by
    rw [List.zip_cons_cons, List.any_cons, List.any_cons, any_zip (ks := xs) (by simpa using l)]
theorem map_zip {k : κ} {v : V} : ∀ {ks : List κ} {us : List V}, ks.length = us.length → (ks.zip us).map (fun kv => if kv.1 = k then (kv.1, v) else kv) = ks.zip (List.zipWith (fun x e => if x = k then v else e) ks us)
  | [], _, _ => by simp
  | x :: xs, [], l => by cases l
  | x :: xs, u :: us, l => by
    rw [List.zip_cons_cons, List.map_cons, List.zipWith_cons_cons, List.zip_cons_cons, map_zip (ks := xs) (by simpa using l)]
    split <;> rfl
theorem put_zip {k : κ} {v : V} {ks : List κ} {us : List V} (l : ks.length = us.length) : putK (ks.zip us) k v = (dkKs ks k).zip (dkDs ks us k v) := by
  unfold putK dkKs dkDs
  rw [any_zip l]
  split
  · exact map_zip l
  · rw [List.zip_append l]; rfl
theorem put_len {α : Type} {k : κ} {v : α} {ks : List κ} {us : List α} (l : ks.length = us.length) : (dkKs ks k).length = (dkDs ks us k v).length := by
  unfold dkKs dkDs
  split
  · simp [l]
  · simp [l]
theorem put_dens {K : PySem.W.Frag} {W : Wd} {dr : Option Addr} {F : Hp} {k : κ} {v : V} {d : D} (hv : Den K W dr F v d) : ∀ {ks : List κ} {us : List V} {ds : List D}, Dens K W dr F us ds → Dens K W dr F (List.zipWith (fun x e => if x = k then v else e) ks us) (List.zipWith (fun x e => if x = k then d else e) ks ds)
  | [], _, _, _ => by simp; exact .nil
  | x :: xs, _, _, .nil => by simp; exact .nil
  | x :: xs, _, _, .cons h1 h2 => by
    rw [List.zipWith_cons_cons, List.zipWith_cons_cons]
    refine .cons ?_ (put_dens hv h2)
    split
    · exact hv
    · exact h1
theorem dkDs_dens {K : PySem.W.Frag} {W : Wd} {dr : Option Addr} {F : Hp} {k : κ} {v : V} {d : D} {ks : List κ} {us : List V} {ds : List D} (hv : Den K W dr F v d) (h : Dens K W dr F us ds) : Dens K W dr F (dkDs ks us k v) (dkDs ks ds k d) := by
  unfold dkDs
  split
  · exact put_dens hv h
  · exact h.append (.cons hv .nil)
end
def dIxA (x y : D) : Option D := match x with
  | .dic ks ds => (match keyD y with | some k => valD ks ds k | none => none)
  | _ => dIx x y
section
variable {X : Cx} {W : Wd} {a b : Expr} {fa fb : EX} {pos : Pos}
def rIxDG : R2 := fun x y H Q => ∃ a v, x = .ref a ∧ DGet H a y (some v) ∧ Q v H
theorem ix_dict (hu : X.A.units + 1 < cLine) : IxR X rIxDG := by
  intro value slice pins s σ H x y v u Q I rx ry h hs
  obtain ⟨a, w, rfl, g, q⟩ := h
  cases rx
  exact tail_any (dict_typeIs I g) PySem.F.slot_dict_getitem.lookup (d_getItem hu I g ry fun w' s3 I3 rw' => ⟨w, H, I3, rw', q⟩) hs
theorem q_ixA {K : PySem.W.Frag} : Op2 K W (fun x y H Q => rIx K x y H Q ∨ rIxDG x y H Q) dIxA := by
  intro fr F H σ ρ n x y d v u Q R dx dy h k
  unfold dIxA at h
  split at h
  · rename_i ks ds
    cases q : keyD y with
    | none => rw [q] at h; cases h
    | some key =>
      rw [q] at h
      have hk := key_of dy q
      subst hk
      cases dx with
      | dic l h1 h2 =>
        obtain ⟨w, e1, e2⟩ := val_zip l h2 h
        exact .inr ⟨_, w, rfl, .inl ⟨_, key, R.core.sub.rd h1, rfl, e1.symm⟩, k F H w R (Sub.refl _) e2⟩
  · exact .inl (q_ix fr F H σ ρ n x y d v u Q R dx dy h k)
theorem d_ixA (hu : X.A.units + 64 < cLine) (ha : PD X W a fa) (hb : PD X W b fb) (hs : PlainIx b := by exact fun _ _ => rfl) : PD X W (.Subscript a b pos) (e2 dIxA fa fb) :=
  imp_E (pe_ix (ix_seq.or (ix_dict (by omega))) ha hb hs) fun _ _ _ h => d_tOp q_ixA h
/-! ### a store in an own dict -/
def dPut (kd : D × D) : D → Option D
  | .dic ks ds => (match keyD kd.1 with
    | some k => if ks.length < sizeLine then some (.dic (dkKs ks k) (dkDs ks ds k kd.2)) else none
    | none => none)
  | _ => none
def sPut (i : Nat) (fk fv : EX) : SX := fun ρ => M.bind (fv ρ) fun d => M.bind (M.opt (own? ρ i)) fun _ => M.bind (fk ρ) fun k => M.bind (M.opt ((own? ρ i).bind (dPut (k, d)))) fun o => M.pure (.nx (ρ.set i (.own o)))
theorem S_dput {i : Nat} {o ie value : Expr} {fk fv : EX} {p2 : Pos} (hu : X.A.units + 64 < cLine) (ho : PE X o (tVar i)) (hk : PD X W ie fk) (hv : PD X W value fv) (hs : swapsWith value (some (.Subscript o ie p2)) pos.line X.env = pure false := by rfl) :
    PDS X W (.Assign [.Subscript o ie p2] value pos) (sPut i fk fv) := imp_S (ps_dput (by omega) ho hk hv hs) fun E σ H ⟨fr, F, ρ, n, r, n', R, e, k⟩ => by
  rcases M.bind_any e with ⟨z, e1, rfl⟩ | ⟨d, n1, e1, h0⟩
  · exact ⟨fr, F, ρ, n, .error z, n', R, e1, KS.x k⟩
  rcases M.bind_any h0 with ⟨z, e1, rfl⟩ | ⟨od0, n1', e0, h1⟩
  · exact (M.opt_err e1).elim
  obtain ⟨q0, q1⟩ := M.opt_ok e0
  subst q1
  rcases r with z | o
  · refine ⟨fr, F, ρ, n, .ok d, _, R, e1, fun F1 H1 v R1 s1 d1 => ?_⟩
    obtain ⟨ad0, s0⟩ := R1.slots
    obtain ⟨z1, _⟩ := s0.own i _ (own_some q0)
    refine ⟨_, z1, R1.dE h1 (KX.mono (KS.x k) s1) fun _ _ _ _ _ _ h _ _ _ => ?_⟩
    rcases M.bind_err h with h | ⟨_, _, _, h⟩
    · exact (M.opt_err h).elim
    · exact (M.pure_err h).elim
  clear e h0 e0
  obtain ⟨kd, n2, e2, h2⟩ := M.bind_ok h1
  obtain ⟨dd, n3, e3, h3⟩ := M.bind_ok h2
  obtain ⟨e4, e5⟩ := M.opt_ok e3
  obtain ⟨e6, e7⟩ := M.pure_ok h3
  subst e5 e6 e7
  cases q : own? ρ i with
  | none => rw [q] at e4; cases e4
  | some od =>
    rw [q] at e4
    have e4 : dPut (kd, d) od = some dd := e4
    have hi := own_some q
    unfold dPut at e4
    split at e4
    · rename_i dd0 ks ds ehi
      cases qk : keyD kd with
      | none => rw [qk] at e4; cases e4
      | some key =>
        rw [qk] at e4
        have e4 : (if ks.length < sizeLine then some (D.dic (dkKs ks key) (dkDs ks ds key d)) else none) = some dd := e4
        split at e4
        · rename_i hl
          cases e4
          refine ⟨fr, F, ρ, n, .ok d, _, R, e1, fun F1 H1 v R1 s1 d1 => ?_⟩
          obtain ⟨ad0, s0⟩ := R1.slots
          obtain ⟨z1, _⟩ := s0.own i _ hi
          refine ⟨_, z1, fr, F1, ρ, _, .ok kd, _, R1, e2, fun F2 H2 u R2 s2 d2 => ?_⟩
          obtain ⟨ad, s⟩ := R2.slots
          obtain ⟨a1, a2, a3, a4, ⟨us, a5, a6, a7⟩, a8⟩ := s.own i _ hi
          have ea : ad i = ad0 i := by rw [a1] at z1; injection z1 with z1; injection z1 with z1; injection z1
          have hu := key_of d2 qk
          subst hu
          have d1' := d1.mono s2 fun _ z => z
          refine ⟨ad i, _, by rw [ea], .inl ⟨_, key, a6, rfl, by rw [List.length_zip, a5, Nat.min_self, ← a5]; exact hl, rfl⟩, ?_⟩
          rw [put_zip a5]
          exact k F2 _ _ (R2.change s hi ⟨_, put_len a5, upd_same, dkDs_dens d1' a7⟩ rfl) (s1.trans s2)
        · cases e4
    · cases e4
end
end DL
end

section
set_option Elab.async false
set_option linter.all false
set_option autoImplicit false
set_option maxRecDepth 100000
namespace DL
open PySem PySem.Spec L2 PyProof.Rows
section
variable {X : Cx} {W : Wd} {a b e : Expr} {fa fb f : EX} {pos : Pos}
/-! ### list(d) -/
def rListR : List V → Hp → VK → Prop := fun xs H Q => ∃ p kvs, xs = [.ref p] ∧ Rd H p (.dK kvs) ∧ ∀ q, H q = none → Q (.ref q) (upd H q (.lst (kvs.map fun kv => kV kv.1)))
theorem call_list_dR (hc : X.calm = true) : CallR X (.type "list") rListR := by
  intro pins s σ H xs us Q I r h
  obtain ⟨p, kvs, e, hk, q⟩ := h
  subst e
  obtain ⟨u, eu, rx⟩ := vals1 r
  subst eu
  obtain rfl : u = Value.ref p := rx
  obtain ⟨z, lo, vs, rk, hd⟩ := dk_rd I.hok hk
  obtain ⟨ep, hat⟩ := hd.dictAt
  have hl : kvs.length = vs.length := Paired.length rk
  refine PySem.W.kdl_call (PySem.W.kdl_dict (knd := mixKind X.prog X.w) (kvs := vs) (ep := ep) lo) (I.ok.hd hc) hat (by rw [← hl]; exact z) fun h' tk acc' c' hkeep hS hacc => ?_
  refine ⟨.ref s.heap.objs.size, upd H s.heap.objs.size (.lst (kvs.map fun kv => kV kv.1)), I.laid hkeep (Nat.le_refl _) (show ObjOk X.prog X.w _ _ _ (.lst (kvs.map fun kv => kV kv.1)) from ⟨?_, acc'.toList, c', ?_, ?_⟩), rfl, q _ (I.hok.fresh (Nat.le_refl _))⟩
  · rw [List.length_map]; exact z
  · have el : acc'.toList.length = acc'.size := by simp
    refine vals_of_at (by rw [List.length_map, el, hacc.1, hl]) fun j x w h1 h2 => ?_
    obtain ⟨k, y, hky, hi⟩ := hacc.2 j w (by rw [← Array.getElem?_toList]; exact h2)
    have e1 : (kvs.map (·.1))[j]? = some k := by
      rw [KV.keys rk, List.getElem?_map, hky] <;> rfl
    have e2 : (kvs.map fun kv => kV kv.1)[j]? = some (kV k) := by
      have e3 : (kvs.map fun kv => kV kv.1) = (kvs.map (·.1)).map kV := by rw [List.map_map] <;> rfl
      rw [e3, List.getElem?_map, e1] <;> rfl
    rw [e2] at h1
    cases h1
    exact keyIs_rel hi
  · rw [Array.toArray_toList]; exact hS
def kD : Key → D
  | .inl i => .int i
  | .inr x => .str x
def dLstA : List D → Option D
  | [.dic ks _] => some (.lst (ks.map kD))
  | xs => dLstOf xs
theorem dens_keys {K : PySem.W.Frag} {dr : Option Addr} {F : Hp} : ∀ {ks : List Key} {us : List V}, ks.length = us.length → Dens K W dr F ((ks.zip us).map fun kv => kV kv.1) (ks.map kD)
  | [], _, _ => by simp; exact .nil
  | k :: ks, [], l => by cases l
  | k :: ks, u :: us, l => by
    rw [List.zip_cons_cons, List.map_cons, List.map_cons]
    refine .cons ?_ (dens_keys (by simpa using l))
    cases k with
    | inl i => exact .int i
    | inr x => exact .str x
theorem q_lstA {K : PySem.W.Frag} : CallD K W (fun xs H Q => (∃ p ys, xs = [.ref p] ∧ (SqL K H p ys ∨ SqT K H p ys) ∧ ∀ l, H l = none → Q (.ref l) (upd H l (.lst ys))) ∨ rListR xs H Q) dLstA := by
  intro fr F H σ ρ n xs d vs Q R dx h k
  unfold dLstA at h
  split at h
  · cases h
    cases dx with
    | cons h1 h2 =>
      cases h2
      cases h1 with
      | dic l h3 h4 => exact .inr ⟨_, _, rfl, R.core.sub.rd h3, put_lst R (dens_keys l) k⟩
  · exact .inl (q_lstOf fr F H σ ρ n xs d vs Q R dx h k)
theorem call_listA (hc : X.calm = true) : CallR X (.type "list") (fun xs H Q => (∃ p ys, xs = [.ref p] ∧ (SqL X.K H p ys ∨ SqT X.K H p ys) ∧ ∀ l, H l = none → Q (.ref l) (upd H l (.lst ys))) ∨ rListR xs H Q) := call_list_of.or (call_list_dR hc)
/-! ### texts in order -/
def dCA (p : Int → Int → Bool) (q : Str → Str → Bool) : D → D → Option D
  | .int i, .int j => some (.bl (p i j))
  | .str i, .str j => some (.bl (q i j))
  | _, _ => none
def dLeA : D → D → Option D := dCA (fun i j => decide (i ≤ j)) fun i j => !decide (j.cps.toList < i.cps.toList)
def rCA (p : Int → Int → Bool) (q : Str → Str → Bool) : R2 := fun x y H Q => rI0 (fun i j => .bl (p i j)) x y H Q ∨ ∃ i j, x = .str i ∧ y = .str j ∧ Q (.bl (q i j)) H
theorem q_CA {K : PySem.W.Frag} (p : Int → Int → Bool) (q : Str → Str → Bool) : Op2 K W (rCA p q) (dCA p q) := by
  intro fr F H σ ρ n x y d v u Q R dx dy h k
  unfold dCA at h
  split at h
  · cases dx; cases dy; cases h
    exact .inl ⟨_, _, rfl, rfl, k F H _ R (Sub.refl _) (.bl _)⟩
  · cases dx; cases dy; cases h
    exact .inr ⟨_, _, rfl, rfl, k F H _ R (Sub.refl _) (.bl _)⟩
  · cases h
theorem d_leA (ha : PD X W a fa) (hb : PD X W b fb) : PD X W (.Compare a [.LtE] [b] pos) (e2 dLeA fa fb) := d_cmp (op_le.or op_le_str) (q_CA _ _) ha hb (nomark _)
theorem t_leA (ha : PD X W a fa) (hb : PD X W b fb) : PDT X W (.Compare a [.LtE] [b] pos) (tB (e2 dLeA fa fb)) := t_cmp (op_le.or op_le_str) (q_CA _ _) ha hb (nomark _)
/-! ### x.split(y) -/
def dSplit : D → D → Option D
  | .str x, .str y => if (y.length == 0) = false ∧ x.length + 2 ≤ sizeLine ∧ (Txt.split x y).length ≤ sizeLine then some (.lst ((Txt.split x y).map .str)) else none
  | _, _ => none
theorem dens_strs {K : PySem.W.Frag} {dr : Option Addr} {F : Hp} : ∀ ys : List Str, Dens K W dr F (ys.map V.str) (ys.map D.str)
  | [] => .nil
  | y :: ys => .cons (.str y) (dens_strs ys)
theorem d_split {apos : Pos} (ha : PD X W a fa) (hb : PD X W b fb) (hq : ∀ ρ n z n', fb ρ n = some (.error z, n') → False := by intro _ _ _ _ h; cases h) (hs : starEach [b] X.env = [(false, eval b X.env)] := by rfl) (hbase : attributeBase a "split" X.env (eval a X.env) = eval a X.env := by rfl) (hline : (apos.endLine == pos.line) = true := by rfl) :
    PD X W (.Call (.Attribute a "split" apos) [b] [] pos) (e2 dSplit fa fb) := imp_E (pe_split ha hb hs hbase hline) fun σ H Q ⟨fr, F, ρ, n, r, n', R, ev, k⟩ => by
  rcases r with z | d
  · rcases M.bind_err ev with h | ⟨x, n1, h1, h⟩
    · exact ⟨fr, F, ρ, n, .error z, n', R, h, k⟩
    · rcases M.bind_err h with h | ⟨_, _, _, h⟩
      · exact (hq _ _ _ _ h).elim
      · exact (M.opt_err h).elim
  obtain ⟨x, n1, h1, h2⟩ := M.bind_ok ev
  obtain ⟨y, n2, h3, h4⟩ := M.bind_ok h2
  obtain ⟨h5, h6⟩ := M.opt_ok h4
  subst h6
  unfold dSplit at h5
  split at h5
  · split at h5
    · rename_i x y q
      cases h5
      refine ⟨fr, F, ρ, n, .ok _, n1, R, h1, fun F1 H1 v R1 s1 d1 => ?_⟩
      cases d1
      refine ⟨⟨_, rfl⟩, fr, F1, ρ, n1, .ok _, _, R1, h3, fun F2 H2 u R2 s2 d2 => ?_⟩
      cases d2
      exact ⟨x, y, rfl, rfl, q.1, q.2.1, put_lst R2 (dens_strs _) fun F' H' v R' s' d' => k F' H' v R' ((s1.trans s2).trans s') d'⟩
    · cases h5
  · cases h5
end
end DL
end

section
set_option Elab.async false
set_option linter.all false
set_option autoImplicit false
set_option maxRecDepth 100000
namespace DL
open PySem PySem.Spec L2 PyProof.Rows
section
variable {α : Type}
def ins (le : α → α → Bool) (x : α) : List α → List α
  | [] => [x]
  | y :: r => if le x y = true then x :: y :: r else y :: ins le x r
def srt (le : α → α → Bool) : List α → List α
  | [] => []
  | x :: r => ins le x (srt le r)
theorem ins_perm (le : α → α → Bool) (x : α) : ∀ l : List α, (ins le x l).Perm (x :: l)
  | [] => .refl _
  | y :: r => by
    unfold ins
    split
    · exact .refl _
    · exact ((ins_perm le x r).cons y).trans (.swap x y r)
theorem srt_perm (le : α → α → Bool) : ∀ l : List α, (srt le l).Perm l
  | [] => .refl _
  | x :: r => (ins_perm le x _).trans ((srt_perm le r).cons x)
theorem ins_sorted {le : α → α → Bool} (tot : ∀ x y, le x y = true ∨ le y x = true) (tr : ∀ x y z, le x y = true → le y z = true → le x z = true) (x : α) : ∀ l : List α, l.Pairwise (fun a b => le a b = true) → (ins le x l).Pairwise (fun a b => le a b = true)
  | [], _ => List.pairwise_singleton ..
  | y :: r, h => by
    unfold ins
    rw [List.pairwise_cons] at h
    split
    · rename_i q
      refine List.pairwise_cons.mpr ⟨fun z hz => ?_, List.pairwise_cons.mpr h⟩
      rcases List.mem_cons.mp hz with e | e
      · rw [e]; exact q
      · exact tr _ _ _ q (h.1 z e)
    · rename_i q
      refine List.pairwise_cons.mpr ⟨fun z hz => ?_, ins_sorted tot tr x r h.2⟩
      rcases List.mem_cons.mp ((ins_perm le x r).mem_iff.mp hz) with e | e
      · rw [e]
        rcases tot x y with t | t
        · exact absurd t q
        · exact t
      · exact h.1 z e
theorem srt_sorted {le : α → α → Bool} (tot : ∀ x y, le x y = true ∨ le y x = true) (tr : ∀ x y z, le x y = true → le y z = true → le x z = true) : ∀ l : List α, (srt le l).Pairwise (fun a b => le a b = true)
  | [] => .nil
  | x :: r => ins_sorted tot tr x _ (srt_sorted tot tr r)
theorem perm_uniq {R : α → α → Prop} (anti : ∀ x y, R x y → R y x → x = y) : ∀ {l m : List α}, l.Pairwise R → m.Pairwise R → l.Perm m → l = m
  | [], m, _, _, p => by rw [List.Perm.nil_eq p]
  | x :: l, [], _, _, p => absurd p.symm.nil_eq (by simp)
  | x :: l, y :: m, h, h', p => by
    rw [List.pairwise_cons] at h h'
    have e : x = y := by
      rcases List.mem_cons.mp (p.mem_iff.mp List.mem_cons_self) with e | e
      · exact e
      · rcases List.mem_cons.mp (p.mem_iff.mpr List.mem_cons_self) with e' | e'
        · exact e'.symm
        · exact anti _ _ (h.1 y e') (h'.1 x e)
    subst e
    rw [perm_uniq anti h.2 h'.2 (List.Perm.cons_inv p)]
end
def leS (x y : Str) : Bool := !ltCps y.cps.toList x.cps.toList
def leZ (x y : Int) : Bool := decide (x ≤ y)
theorem leS_iff (x y : Str) : leS x y = true ↔ x.cps.toList ≤ y.cps.toList := by
  unfold leS
  rw [ltCps_eq]
  simp
theorem leS_tot (x y : Str) : leS x y = true ∨ leS y x = true := by
  rw [leS_iff, leS_iff]; exact List.le_total _ _
theorem leS_tr (x y z : Str) (h : leS x y = true) (h' : leS y z = true) : leS x z = true := by
  rw [leS_iff] at *; exact List.le_trans h h'
theorem leS_anti (x y : Str) (h : leS x y = true) (h' : leS y x = true) : x = y := by
  rw [leS_iff] at *
  have := List.le_antisymm h h'
  cases x; cases y
  simp at this
  rw [this]
theorem rising_pw : ∀ (x : Str) (r : List Str), risingS x r = true → (x :: r).Pairwise (fun a b => leS a b = true)
  | x, [], _ => List.pairwise_singleton ..
  | x, y :: r, h => by
    have h' : (!ltCps y.cps.toList x.cps.toList && risingS y r) = true := h
    rw [Bool.and_eq_true] at h'
    have ih := rising_pw y r h'.2
    refine List.pairwise_cons.mpr ⟨fun z hz => ?_, ih⟩
    rcases List.mem_cons.mp hz with e | e
    · rw [e]; exact h'.1
    · exact leS_tr _ _ _ h'.1 ((List.pairwise_cons.mp ih).1 z e)
theorem sortedS_pw {l : List Str} (h : sortedS l = true) : l.Pairwise (fun a b => leS a b = true) := by
  cases l with
  | nil => exact .nil
  | cons x r => exact rising_pw x r h
def strsD : List D → Option (List Str)
  | [] => some []
  | .str x :: r => (match strsD r with | some l => some (x :: l) | none => none)
  | _ :: _ => none
def intsD : List D → Option (List Int)
  | [] => some []
  | .int x :: r => (match intsD r with | some l => some (x :: l) | none => none)
  | _ :: _ => none
theorem strsD_ok {K : PySem.W.Frag} {W : Wd} {dr : Option Addr} {F : Hp} : ∀ {vs : List V} {ds : List D} {l : List Str}, Dens K W dr F vs ds → strsD ds = some l → vs = l.map V.str
  | _, _, _, .nil, h => by cases h; rfl
  | _, d :: ds, _, .cons h1 h2, h => by
    unfold strsD at h
    split at h
    · rename_i e
      cases e
    · rename_i x r e
      cases e
      split at h
      · rename_i l q
        cases h
        cases h1
        rw [strsD_ok h2 q]; rfl
      · cases h
    · cases h
theorem intsD_ok {K : PySem.W.Frag} {W : Wd} {dr : Option Addr} {F : Hp} : ∀ {vs : List V} {ds : List D} {l : List Int}, Dens K W dr F vs ds → intsD ds = some l → vs = l.map V.int
  | _, _, _, .nil, h => by cases h; rfl
  | _, d :: ds, _, .cons h1 h2, h => by
    unfold intsD at h
    split at h
    · rename_i e
      cases e
    · rename_i x r e
      cases e
      split at h
      · rename_i l q
        cases h
        cases h1
        rw [intsD_ok h2 q]; rfl
      · cases h
    · cases h
def dSorted : List D → Option D
  | [.lst ds] => (match strsD ds with
    | some l => if l.length < 64 then some (.lst ((srt leS l).map .str)) else none
    | none => (match intsD ds with
      | some l => some (.lst ((srt leZ l).map .int))
      | none => none))
  | _ => none
section
variable {X : Cx} {W : Wd}
theorem dens_ints {K : PySem.W.Frag} {dr : Option Addr} {F : Hp} : ∀ ys : List Int, Dens K W dr F (ys.map V.int) (ys.map D.int)
  | [] => .nil
  | y :: ys => .cons (.int y) (dens_ints ys)
theorem call_sortedA : CallR X (.builtin "sorted") (fun xs H Q => rSortedS X.K xs H Q ∨ rSortedI X.K xs H Q) := cr_sortedS.or cr_sortedI
theorem q_sorted {K : PySem.W.Frag} : CallD K W (fun xs H Q => rSortedS K xs H Q ∨ rSortedI K xs H Q) dSorted := by
  intro fr F H σ ρ n xs d vs Q R dx h k
  unfold dSorted at h
  split at h
  · rename_i ds
    cases dx with
    | cons h1 h2 =>
      cases h2
      cases h1 with
      | lst h3 h4 =>
        split at h
        · rename_i l q
          split at h
          · rename_i hl
            cases h
            have e := strsD_ok h4 q
            subst e
            refine .inl ⟨_, l, rfl, SqL.of (R.core.sub _ _ h3), hl, fun ys p hp hs hn => ?_⟩
            have e : ys = srt leS l := perm_uniq leS_anti (sortedS_pw hs) (srt_sorted leS_tot leS_tr l) (hp.trans (srt_perm leS l).symm)
            rw [e]
            exact put_lst R (dens_strs _) k p hn
          · cases h
        · split at h
          · rename_i l q
            cases h
            have e := intsD_ok h4 q
            subst e
            refine .inr ⟨_, l, rfl, SqL.of (R.core.sub _ _ h3), fun ys p hp hs hn => ?_⟩
            have e : ys = srt leZ l := perm_uniq (R := fun a b : Int => leZ a b = true) (fun x y h h' => by have a := of_decide_eq_true h; have b := of_decide_eq_true h'; omega) (hs.imp fun h => decide_eq_true h) (srt_sorted (fun x y => by unfold leZ; simp; omega) (fun x y z h h' => by have a := of_decide_eq_true h; have b := of_decide_eq_true h'; exact decide_eq_true (by omega)) l) (hp.trans (srt_perm leZ l).symm)
            rw [e]
            exact put_lst R (dens_ints _) k p hn
          · cases h
  · cases h
end
end DL
end

section
set_option Elab.async false
set_option linter.all false
set_option autoImplicit false
set_option maxRecDepth 100000
namespace DL
open PySem PySem.Spec L2 PyProof.Rows
section
variable {X : Cx} {W : Wd} {a : Addr}
theorem call_list_kd {es : Array DictEntry} {n : Nat} {ks : List Str} (hc : X.calm = true) (D : KDict X.K X.w a es n) (hk : es.toList.map He.keyOf = He.keysIn X.w.params ks) (hz : ks.length ≤ 1000) :
    CallR X (.type "list") (fun xs H Q => xs = [.ref a] ∧ ∀ q, H q = none → Q (.ref q) (upd H q (.lst (ks.map V.str)))) := by
  intro pins s σ H xs us Q I r h
  obtain ⟨e, q⟩ := h
  subst e
  obtain ⟨u, eu, rx⟩ := vals1 r
  subst eu
  obtain rfl : u = Value.ref a := rx
  have hat := I.kIn _ _ D.at_
  have hl : es.size = ks.length := by
    have := congrArg List.length hk
    rw [List.length_map] at this
    unfold He.keysIn at this
    rw [List.length_map] at this
    simpa using this
  refine PySem.W.kdl_call (kdl_raw (o := ⟨.type "dict", none, .dict es n, #[]⟩) D.low ⟨rfl, rfl, rfl⟩ rfl) (I.ok.hd hc) hat (by rw [sizeLine_eq]; omega) fun h' tk acc' c' hkeep hS hacc => ?_
  refine ⟨.ref s.heap.objs.size, upd H s.heap.objs.size (.lst (ks.map V.str)), I.laid hkeep (Nat.le_refl _) (show ObjOk X.prog X.w _ _ _ (.lst (ks.map V.str)) from ⟨?_, acc'.toList, c', ?_, ?_⟩), rfl, q _ (I.hok.fresh (Nat.le_refl _))⟩
  · rw [List.length_map, sizeLine_eq]; omega
  · have el : acc'.toList.length = acc'.size := by simp
    refine vals_of_at (by rw [List.length_map, el, hacc.1, hl]) fun j x w h1 h2 => ?_
    obtain ⟨en, hen, hw⟩ := hacc.2 j w (by rw [← Array.getElem?_toList]; exact h2)
    have e1 : (es.toList.map He.keyOf)[j]? = some (He.keyOf en) := by
      rw [List.getElem?_map, Array.getElem?_toList, hen]; rfl
    rw [hk] at e1
    unfold He.keysIn at e1
    rw [List.getElem?_map] at h1 e1
    cases z : ks[j]? with
    | none => rw [z] at h1; cases h1
    | some k =>
      rw [z] at h1 e1
      cases h1
      have e2 : some (k, PyData.keyHash X.w.params k) = He.keyOf en := by injection e1
      unfold He.keyOf at e2
      split at e2
      · rename_i x t hx
        injection e2 with e2
        injection e2 with e2 e3
        subst hw
        exact ⟨t, by rw [hx, e2]⟩
      · cases e2
  · rw [Array.toArray_toList]; exact hS
/-- the table and its keys in their order -/
structure KTabs (K : PySem.W.Frag) (w : World) (W : Wd) (a : Addr) (tbl : List (Str × D)) : Prop extends KTab K w W a tbl where
  ord : ∃ (es : Array DictEntry) (n : Nat), KDict K w a es n ∧ es.toList.map He.keyOf = He.keysIn w.params (tbl.map (·.1))
  few : tbl.length ≤ 1000
theorem ktabs_of {K : PySem.W.Frag} {w : World} {W : Wd} {a : Addr} {tbl : List (Str × D)} (h1 : He.dicW K a = some (He.keysIn w.params (tbl.map (·.1)))) (h2 : tabDB K a tbl = true) (h3 : decide (tbl.length ≤ 1000) = true) : KTabs K w W a tbl := by
  refine ⟨ktab_of h1 h2, ?_, of_decide_eq_true h3⟩
  obtain ⟨es, n, T⟩ := He.dicW_ok h1
  refine ⟨es, n, T, ?_⟩
  unfold He.dicW at h1
  rw [T.at_] at h1
  simp [T.low] at h1
  exact h1
theorem d_lstK {x : Str} {tbl : List (Str × D)} {p p2 pos : Pos} (hc : X.calm = true) (T : KTabs X.K X.w W a tbl) (hgf : Gl X "list") (hmf : X.mg "list" = none) (hg : Gl X x) (hm : X.mg x = some (.ref a)) (hd : (x == ("__debug__" : Str)) = false := by decide)
    (he : starEach [.Name x p2] X.env = (false, eval (.Name x p2) X.env) :: starEach [] X.env := by rfl) (hpl : (backTo pos (starEach [] X.env)).any (·.1) = false := by rfl) :
    PD X W (.Call (.Name "list" p) [.Name x p2] [] pos) (eC (.lst (tbl.map fun q => .str q.1))) := by
  obtain ⟨es, n, kd, hk⟩ := T.ord
  refine imp_E (pe_callTy (call_list_kd hc kd hk (by rw [List.length_map]; exact T.few)) hgf hmf rfl (pa_cons (pe_glob (v := .ref a) hg hm rfl hd) pa_nil he) (by decide) (by decide) he hpl) fun σ H Q ⟨fr, F, ρ, n, r, n', R, ev, k⟩ => ?_
  rcases r with z | d
  · exact (M.pure_err ev).elim
  obtain ⟨h1, h2⟩ := M.pure_ok ev
  subst h1 h2
  refine ⟨rfl, put_lst R ?_ k⟩
  have := dens_strs (K := X.K) (W := W) (dr := fr.dr) (F := F) (tbl.map (·.1))
  have e : (tbl.map fun q => DL.D.str q.1) = (tbl.map (·.1)).map DL.D.str := by rw [List.map_map]; rfl
  rw [e]
  exact this
/-- the same, where the dict stands is not told -/
def Tab (K : PySem.W.Frag) (w : World) (W : Wd) (mg : Str → Option Value) (x : Str) (tbl : List (Str × D)) : Prop := ∃ a : Addr, mg x = some (.ref a) ∧ KTabs K w W a tbl
theorem d_inT {x : Str} {tbl : List (Str × D)} {e : Expr} {f : EX} {p pos : Pos} (T : Tab X.K X.w W X.mg x tbl) (hg : Gl X x) (he : PD X W e f) (hd : (x == ("__debug__" : Str)) = false := by decide) (hb : behindInMarks .In (.Name x p) = false := by rfl) : PD X W (.Compare e [.In] [.Name x p] pos) (e1 (dInK tbl) f) :=
  T.elim fun a h => d_inK h.2.toKTab hg h.1 he hd hb
theorem d_niT {x : Str} {tbl : List (Str × D)} {e : Expr} {f : EX} {p pos : Pos} (T : Tab X.K X.w W X.mg x tbl) (hg : Gl X x) (he : PD X W e f) (hd : (x == ("__debug__" : Str)) = false := by decide) (hb : behindInMarks .NotIn (.Name x p) = false := by rfl) : PD X W (.Compare e [.NotIn] [.Name x p] pos) (e1 (dNiK tbl) f) :=
  T.elim fun a h => d_niK h.2.toKTab hg h.1 he hd hb
theorem d_ixT {x : Str} {tbl : List (Str × D)} {e : Expr} {f : EX} {p pos : Pos} (T : Tab X.K X.w W X.mg x tbl) (hg : Gl X x) (he : PD X W e f) (hd : (x == ("__debug__" : Str)) = false := by decide) (hs : PlainIx e := by exact fun _ _ => rfl) : PD X W (.Subscript (.Name x p) e pos) (e1 (dIxK tbl) f) :=
  T.elim fun a h => d_ixK h.2.toKTab hg h.1 he hd hs
theorem d_lstT {x : Str} {tbl : List (Str × D)} {p p2 pos : Pos} (hc : X.calm = true) (T : Tab X.K X.w W X.mg x tbl) (hgf : Gl X "list") (hmf : X.mg "list" = none) (hg : Gl X x) (hd : (x == ("__debug__" : Str)) = false := by decide)
    (he : starEach [.Name x p2] X.env = (false, eval (.Name x p2) X.env) :: starEach [] X.env := by rfl) (hpl : (backTo pos (starEach [] X.env)).any (·.1) = false := by rfl) :
    PD X W (.Call (.Name "list" p) [.Name x p2] [] pos) (eC (.lst (tbl.map fun q => .str q.1))) :=
  T.elim fun a h => d_lstK hc h.2 hgf hmf hg h.1 hd he hpl
end
end DL
namespace DL
open PySem PySem.Spec L2
theorem d_cint {X : Cx} {W : Wd} {x : Str} {pos : Pos} {i : Int} (hg : Gl X x) (h : ∃ t, X.mg x = some (.int i t)) (hd : (x == ("__debug__" : Str)) = false := by decide) : PD X W (.Name x pos) (eC (.int i)) :=
  h.elim fun t e => d_glob (v := .int i) hg e ⟨t, rfl⟩ (fun _ _ _ _ => .int _) hd
end DL
end

section
set_option Elab.async false
set_option linter.all false
set_option autoImplicit false
set_option maxRecDepth 100000
namespace DL
open PySem PySem.Spec L2 PyProof.Rows
def dIntA : List D → Option D
  | [.str a] => (match PySem.intText? a with
    | some n => if a.length ≤ 640 then some (.int n) else none
    | none => none)
  | xs => dInt xs
section
variable {X : Cx} {W : Wd}
def rIntT : List V → Hp → VK → Prop := fun xs H Q => ∃ a n, xs = [.str a] ∧ PySem.intText? a = some n ∧ a.length ≤ 640 ∧ Q (.int n) H
theorem call_intA : CallR X (.type "int") (fun xs H Q => ((∃ i, xs = [.int i] ∧ Q (.int i) H) ∨ ∃ k, xs = [.bl k] ∧ Q (.int (if k then 1 else 0)) H) ∨ rIntT xs H Q) := call_int1.or call_int_str
theorem q_intA {K : PySem.W.Frag} : CallD K W (fun xs H Q => ((∃ i, xs = [.int i] ∧ Q (.int i) H) ∨ ∃ k, xs = [.bl k] ∧ Q (.int (if k then 1 else 0)) H) ∨ rIntT xs H Q) dIntA := by
  intro fr F H σ ρ n xs d vs Q R dx h k
  unfold dIntA at h
  split at h
  · rename_i a
    cases q : PySem.intText? a with
    | none => rw [q] at h; cases h
    | some m =>
      rw [q] at h
      have h : (if a.length ≤ 640 then some (D.int m) else none) = some d := h
      split at h
      · rename_i hl
        cases h
        cases dx with
        | cons h1 h2 => cases h2; cases h1; exact .inr ⟨a, m, rfl, q, hl, k F H _ R (Sub.refl _) (.int _)⟩
      · cases h
  · exact .inl (q_int fr F H σ ρ n xs d vs Q R dx h k)
end
end DL
end

section
set_option Elab.async false
set_option linter.all false
set_option autoImplicit false
set_option maxRecDepth 100000
set_option maxHeartbeats 1000000
namespace DL
open PySem PySem.Spec L2
/-! ### exceptions -/
/-- an own class of exceptions without __init__ -/
structure XCls (K : PySem.W.Frag) (mg : Str → Option Value) (x : Str) (C : Addr) : Prop where
  base : PySem.W.excIn K C [.type "ValueError", .type "Exception", .type "BaseException", .type "object"] "ValueError.__new__" = true
  g : mg x = some (.ref C)
  kp : PySem.W.keepIn K (.ref C) = true
  sub : PySem.W.subIn K (.ref C) (.type "BaseException") = some true
  ty : PySem.W.typeIn K (.ref C) = some (.type "type")
section
variable {X : Cx} {W : Wd}
/-- raise C('..') -/
def sRaise (c : Nat) : SX := fun _ n => some (.error ⟨c, [], []⟩, n)
theorem S_raise {c : Nat} {x m : Str} {j : Nat} {p p2 pos pos' : Pos} (hc : X.calm = true) (F : XCls X.K X.mg x (W.cl c)) (hg : Gl X x) (hdb : (x == ("__debug__" : Str)) = false := by decide) : PDS X W (.Raise (some (.Call (.Name x p) [.Constant (.str m) j p2] [] pos)) none pos') (sRaise c) :=
  imp_S (ps_raise hc takesAcc (pmk_own PySem.F.excBase_ValueError F.base F.g F.kp (raises_own F.sub F.ty) hg hdb)) fun E σ H ⟨fr, G, ρ, n, r, n', R, e, k⟩ => by
    unfold sRaise at e
    cases e
    exact k G H σ _ _ R.core (Sub.refl _) ⟨rfl, .inl ⟨rfl, rfl, rfl⟩⟩
/-- a statement that lets its errors out at the slots as they were -/
def tSx (X : Cx) (W : Wd) (g : SX) : TS := fun E σ H => ∃ fr F ρ n r n', Rel X.K W fr F H σ ρ n ∧ g ρ n = some (r, n') ∧ Res (fun o => OutK X.K W fr F E o n') (KX X W fr F σ ρ n') r
theorem S_retX {e : Expr} {f : EX} {pos : Pos} (he : PD X W e f) : PS X (.Return (some e) pos) (tSx X W (sRet f)) := imp_S (ps_ret he) fun E σ H ⟨fr, F, ρ, n, r, n', R, e, k⟩ => by
  rcases r with z | o
  · exact R.dE e k fun _ _ _ _ _ _ h _ _ _ => (M.pure_err h).elim
  obtain ⟨x, n1, e1, h⟩ := M.bind_ok e
  obtain ⟨h1, h2⟩ := M.pure_ok h
  subst h1 h2
  exact ⟨fr, F, ρ, n, .ok x, _, R, e1, fun F1 H1 v R1 s1 d1 => k F1 H1 v R1.core s1 d1⟩
theorem S_expX {e : Expr} {f : EX} {pos : Pos} (he : PD X W e f) (hs : swapsWith e none pos.line X.env = pure false := by rfl) : PS X (.Expr e pos) (tSx X W (sExp f)) := imp_S (ps_expr he hs) fun E σ H ⟨fr, F, ρ, n, r, n', R, e, k⟩ => by
  rcases r with z | o
  · exact R.dE e k fun _ _ _ _ _ _ h _ _ _ => (M.pure_err h).elim
  obtain ⟨x, n1, e1, h⟩ := M.bind_ok e
  obtain ⟨h1, h2⟩ := M.pure_ok h
  subst h1 h2
  exact ⟨fr, F, ρ, n, .ok x, _, R, e1, fun F1 H1 v R1 s1 d1 => k F1 H1 σ R1 s1⟩
/-- x = e -/
theorem S_asgX {tg e : Expr} {f : EX} {t : TG} {g : GX} {pos : Pos} (he : PD X W e f) (ht : PG X tg t) {is : List Nat} (hg : GOk X.K W t g is) (hs : swapsWithSole [tg] e pos.line X.env = pure false := by rfl) (hw : swappedStores [tg] e X.env = pure none := by rfl)
    (h1 : (assignEach [tg] X.env).map (·.2) = [assign tg X.env] := by rfl) : PS X (.Assign [tg] e pos) (tSx X W (sAsg g f)) := imp_S (ps_asg he ht hs hw h1) fun E σ H ⟨fr, F, ρ, n, r, n', R, e, k⟩ => by
  rcases r with z | o
  · refine R.dE e k fun _ _ _ _ _ _ h _ _ _ => ?_
    rcases M.bind_err h with h | ⟨_, _, _, h⟩
    · exact (M.opt_err h).elim
    · exact (M.pure_err h).elim
  obtain ⟨x, n1, e1, ha⟩ := M.bind_ok e
  obtain ⟨ρ', n2, e2, h⟩ := M.bind_ok ha
  obtain ⟨h1, h2⟩ := M.pure_ok h
  obtain ⟨h3, h4⟩ := M.opt_ok e2
  clear ha h
  subst h4
  subst h1 h2
  exact ⟨fr, F, ρ, n, .ok x, _, R, e1, fun F1 H1 v R1 s1 d1 => hg fr F1 H1 σ ρ ρ' _ v x _ R1 d1 h3 fun σ' R' _ => k F1 H1 σ' R' s1⟩
/-- behind a body that hands its ends to the rest: x = e; return .. (the rest raises nothing) -/
def sSeqX (g h : SX) : SX := fun ρ => M.bind (g ρ) fun o => match o with
  | .nx ρ' => M.calm (h ρ')
  | .bk ρ' => M.pure (.bk ρ')
  | .ct ρ' => M.pure (.ct ρ')
  | .ret d => M.pure (.ret d)
theorem S_consX {st : Stmt} {r : List Stmt} {g h : SX} (hg : PS X st (tSx X W g)) (hh : PDSs X W r h) : PSs X (st :: r) (tSx X W (sSeqX g h)) := imp_Ss (pss_cons hg hh) fun E σ H ⟨fr, F, ρ, n, r, n', R, e, k⟩ => by
  rcases M.bind_any e with ⟨z, e1, rfl⟩ | ⟨o1, n1, e1, h⟩
  · exact ⟨fr, F, ρ, n, .error z, n', R, e1, k⟩
  refine ⟨fr, F, ρ, n, .ok o1, n1, R, e1, ?_⟩
  cases o1 with
  | nx ρ1 =>
    rcases r with z | o
    · exact (M.calm_err h).elim
    · exact fun F1 H1 σ1 R1 s1 => ⟨fr, F1, ρ1, n1, .ok o, n', R1, M.calm_ok h, OutK.mono s1 k⟩
  | bk ρ1 =>
    obtain ⟨h1, h2⟩ := M.pure_any h
    subst h1 h2
    exact k
  | ct ρ1 =>
    obtain ⟨h1, h2⟩ := M.pure_any h
    subst h1 h2
    exact k
  | ret d =>
    obtain ⟨h1, h2⟩ := M.pure_any h
    subst h1 h2
    exact k
theorem S_oneX {st : Stmt} {g : SX} (h : PS X st (tSx X W g)) : PSs X [st] (tSx X W g) := pss_one h
/-- what raises nothing -/
def tSk (K : PySem.W.Frag) (W : Wd) (g : SX) : TS := fun E σ H => ∃ fr F ρ n o n', Rel K W fr F H σ ρ n ∧ g ρ n = some (.ok o, n') ∧ OutK K W fr F E o n'
theorem sk {st : List Stmt} {g : SX} (h : PDSs X W st g) : PSs X st (tSk X.K W g) := imp_Ss h fun E σ H ⟨fr, F, ρ, n, o, n', R, e, k⟩ => ⟨fr, F, ρ, n, .ok o, n', R, e, k⟩
/-- a body's wish about exceptions by a wish at the slots -/
def tSW (K : PySem.W.Frag) (W : Wd) (Wx : WX) (g : SX) : TS := fun E σ H => ∃ fr F ρ n r n', Rel K W fr F H σ ρ n ∧ g ρ n = some (r, n') ∧ Res (fun o => OutK K W fr F E o n') (fun z => ∀ F' H' cls d, Rel K W fr F' H' σ ρ n' → Sub F F' → XDen K W fr.dr F' H' z cls d → Wx cls d σ H') r
theorem sw_of {st : List Stmt} {g : SX} {Wx : WX} (tk : Takes X Wx) (h : PSs X st (tSx X W g)) : PSs X st (tSW X.K W Wx g) := imp_Ss h fun E σ H ⟨fr, F, ρ, n, r, n', R, e, k⟩ => by
  rcases r with z | o
  · exact ⟨fr, F, ρ, n, .error z, n', R, e, fun F' H' cls d R' s' x => Acc.of tk (k F' H' cls d R' s' x)⟩
  · exact ⟨fr, F, ρ, n, .ok o, n', R, e, k⟩
/-- try: g except c: h; m: which classes the clause takes -/
def sTry (m : Nat → Option Bool) (g h : SX) : SX := fun ρ n => match g ρ n with
  | some (.error z, n1) => (match m z.c with
    | some true => M.calm (h ρ) n1
    | some false => some (.error z, n1)
    | none => none)
  | r => r
theorem S_try {x : Str} {c : Value} {body suite : List Stmt} {b₀ : Stmt} {np pos pos' : Pos} {m : Nat → Option Bool} {g h : SX} (hs : X.stack = X.env :: X.outer) (hf : X.env.frame = some X.env.locals) (hc : Names X x c) (hm : ∀ i b, m i = some b → PySem.W.exmOne X.K (.ref (W.cl i)) c = some b)
    (hb : ∀ (pn : List (Addr × Obj)) (xe : Value → Shared → Prop), PassesOwn (model X.prog X.w) X.A X.env xe → PSs (X.tr pn xe) body (tSx (X.tr pn xe) W g))
    (hsu : ∀ (a : Addr) (pn : List (Addr × Obj)), PDSs (X.suite a pn) W (b₀ :: suite) h) :
    PDS X W (.Try body [.ExceptHandler (some (.Name x np)) none (b₀ :: suite) pos'] [] [] pos) (sTry m g h) :=
  imp_S (ps_try_only (Wout := Acc X) (tb := fun Wx => tSW X.K W Wx g) (ts := fun _ _ _ => tSk X.K W h) hs hf hc takesAcc (fun Wx pn xe tk po => sw_of tk (hb pn xe po)) fun a oe cls d pn _ _ => sk (hsu a _)) fun E σ H ⟨fr, F, ρ, n, r, n', R, e, k⟩ => by
    unfold sTry at e
    split at e
    · rename_i z n1 eg
      refine ⟨fr, F, ρ, n, .error z, n1, R, eg, fun F1 H1 cls d R1 s1 x => ?_⟩
      have ec : cls = .ref (W.cl z.c) := x.1
      split at e
      · rename_i hz
        rcases r with z' | o
        · exact (M.calm_err e).elim
        · exact ⟨true, by rw [ec]; exact hm _ _ hz, fun _ _ _ => ⟨fr, F1, ρ, n1, o, n', R1, M.calm_ok e, OutK.mono s1 k⟩, fun q => nomatch q⟩
      · rename_i hz
        cases e
        exact ⟨false, by rw [ec]; exact hm _ _ hz, (fun q => nomatch q), fun _ => k F1 H1 σ cls d R1.core s1 x⟩
      · cases e
    · rename_i hne
      rcases r with z | o
      · exact absurd e (hne z n')
      · exact ⟨fr, F, ρ, n, .ok o, n', R, e, k⟩
end
end DL
end

section
set_option Elab.async false
set_option linter.all false
set_option autoImplicit false
set_option maxRecDepth 100000
set_option maxHeartbeats 1000000
namespace DL
open PySem PySem.Spec L2
open PyProof.Rows (UnaryOp_ isTrue_plain not_of)
/-- nothing is let out -/
theorem passN {X : Cx} : Passes (L2.CX X.prog X.w) X E0 := fun _ _ _ _ _ _ _ ⟨_, _, _, _, _, _, _, _, _, _, _, _, z⟩ => z.elim
/-! ### own operators -/
def isC (c : Nat) : D → Bool
  | .obj c' _ _ => decide (c' = c)
  | _ => false
theorem isC_of {K : PySem.W.Frag} {W : Wd} {dr : Option Addr} {F H : Hp} {c : Nat} {v : V} {d : D} (s : Sub F H) (h : Den K W dr F v d) (e : isC c d = true) : ∃ p dx fs, v = .ref p ∧ H p = some (.ins (W.cl c) dx fs) := by
  unfold isC at e
  split at e
  · have e := of_decide_eq_true e
    subst e
    cases h with
    | obj l hF hd => exact ⟨_, _, _, rfl, s _ _ hF⟩
  · cases e
theorem relV_ni {v : V} (r : RelV v .notImplemented) : False := by
  cases v with
  | int i => obtain ⟨t, q⟩ := r; cases q
  | str i => obtain ⟨t, q⟩ := r; cases q
  | byt i => obtain ⟨t, q⟩ := r; cases q
  | flt i => obtain ⟨t, q⟩ := r; cases q
  | _ => cases r
theorem cmpBack_of {v : V} {u : Value} {s : Shared} {Q : Value → Shared → Prop} (r : RelV v u) (q : Q u s) : PySem.W.CmpBack Q u s := by
  unfold PySem.W.CmpBack
  split
  · exact relV_ni r
  · exact q
section
variable {X : Cx} {W : Wd} {c k : Nat} {m : Str} {pos : Pos} {a b : Expr} {fa fb : EX} {fx : FX}
/-- a op b by an own method -/
def eOwn2 (c : Nat) (fx : FX) (fa fb : EX) : EX := fun ρ => M.bind (fa ρ) fun x => M.bind (fb ρ) fun y => if isC c x && isC c y then fx [x, y] else M.opt none
theorem d_own2 {op : Operator} (F : CalM X.prog X.w X.K X.mg X.base (W.cl c) (PySem.dunder op.info.2) k (spD X.K W fx 2)) (hr : Room k X.A) (hc : PySem.W.selfFirst X.K (W.cl c) = true) (ha : PD X W a fa) (hb : PD X W b fb) :
    PD X W (.BinOp a op b pos) (eOwn2 c fx fa fb) := by
  obtain ⟨f, fd, ps, F, hm, hbd⟩ := F
  constructor
  intro pins s σ H Q I ⟨fr, G, ρ, n, r, n', R, e, kk⟩
  refine wpAny_BinOp (binT ha hb (R := fun x y H2 => spD X.K W fx 2 [x, y] H2 Q (EA X σ) ∧ (∃ p dx fs, x = .ref p ∧ H2 p = some (.ins (W.cl c) dx fs)) ∧ ∃ p dx fs, y = .ref p ∧ H2 p = some (.ins (W.cl c) dx fs)) I ?_ ?_)
  · rcases M.bind_any e with ⟨z, e1, rfl⟩ | ⟨x, n1, e1, h⟩
    · exact ⟨fr, G, ρ, n, .error z, n', R, e1, kk⟩
    refine ⟨fr, G, ρ, n, .ok x, n1, R, e1, fun F1 H1 v R1 s1 d1 => ?_⟩
    rcases M.bind_any h with ⟨z, e2, rfl⟩ | ⟨y, n2, e2, h2⟩
    · exact ⟨fr, F1, ρ, n1, .error z, n', R1, e2, KX.mono kk s1⟩
    refine ⟨fr, F1, ρ, n1, .ok y, n2, R1, e2, fun F2 H2 u R2 s2 d2 => ?_⟩
    split at h2
    · rename_i q
      rw [Bool.and_eq_true] at q
      have d1' := d1.mono (dr' := fr.dr) s2 fun _ z => z
      exact ⟨callee_back (F := G) rfl R2 (s1.trans s2) (.cons d1' (.cons d2 .nil)) h2 kk, isC_of R2.core.sub d1' q.1, isC_of R2.core.sub d2 q.2⟩
    · obtain ⟨_, q⟩ := M.opt_any h2
      cases q
  · rintro v u s2 x y H2 I2 rx ry ⟨sp, ⟨p, dx, fs, rfl, hp⟩, q, dy, gs, rfl, hq⟩
    have ev : v = Value.ref p := rx
    have eu : u = Value.ref q := ry
    subst ev eu
    obtain ⟨mA, J, _⟩ := ins_get I2.hok hp
    obtain ⟨mB, J', _⟩ := ins_get I2.hok hq
    obtain ⟨od, J, _⟩ := J.look
    obtain ⟨od', J', _⟩ := J'.look
    obtain ⟨mm, hF⟩ := I2.fr
    refine PySem.W.binop_K hF I2.ok.mod.kin J J'.type hc hm.at_ hm.fn (thn (run_fnS (us := [.ref p, .ref q]) F hr hbd passEA I2 (.cons rx (.cons ry .nil)) sp) ?_)
    rintro w s3 ⟨z, H3, I3, rz, qz⟩
    exact cmpBack_of rz ⟨z, H3, I3, rz, qz⟩
/-! ### comparisons, truth, attributes that raise nothing -/
def e2M (op : D → D → M D) (fa fb : EX) : EX := fun ρ => M.bind (fa ρ) fun x => M.bind (fb ρ) fun y => M.calm (op x y)
def Op2M (K : PySem.W.Frag) (W : Wd) (r : R2) (op : D → D → M D) : Prop := ∀ (fr : Fr) (F H : Hp) (σ : St) (ρ : Env) (n n' : Int) (x y d : D) (v u : V) (Q : VK), Rel K W fr F H σ ρ n → Den K W fr.dr F v x → Den K W fr.dr F u y → op x y n = some (.ok d, n') →
  (∀ F' H' w, Rel K W fr F' H' σ ρ n' → Sub F F' → Den K W fr.dr F' w d → Q w H') → r v u H Q
theorem d_tOpM {r : R2} {op : D → D → M D} (hd : Op2M X.K W r op) {σ : St} {H : Hp} {Q : VK} (h : tD X W (e2M op fa fb) σ H Q) : tOp r (tD X W fa) (tD X W fb) σ H Q := by
  obtain ⟨fr, F, ρ, n, r, n', R, e, k⟩ := h
  rcases M.bind_any e with ⟨z, e1, rfl⟩ | ⟨x, n1, e1, h⟩
  · exact ⟨fr, F, ρ, n, .error z, n', R, e1, k⟩
  refine ⟨fr, F, ρ, n, .ok x, n1, R, e1, fun F1 H1 v R1 s1 d1 => ?_⟩
  rcases M.bind_any h with ⟨z, e2, rfl⟩ | ⟨y, n2, e2, h2⟩
  · exact ⟨fr, F1, ρ, n1, .error z, n', R1, e2, KX.mono k s1⟩
  refine ⟨fr, F1, ρ, n1, .ok y, n2, R1, e2, fun F2 H2 u R2 s2 d2 => ?_⟩
  rcases r with z | d
  · exact (M.calm_err h2).elim
  · exact hd fr F2 H2 σ ρ _ _ x y d v u Q R2 (d1.mono s2 fun _ z => z) d2 (M.calm_ok h2) fun F3 H3 w R3 s3 d3 => k F3 H3 w R3 ((s1.trans s2).trans s3) d3
theorem d_cmpM {o : CmpOp} {r : R2} {op : D → D → M D} (ho : OpR X (compareOp o) r) (hd : Op2M X.K W r op) (ha : PD X W a fa) (hb : PD X W b fb) (hm : behindInMarks o b = false) : PD X W (.Compare a [o] [b] pos) (e2M op fa fb) := imp_E (pe_cmpR ho ha hb hm) fun _ _ _ h => d_tOpM hd h
theorem t_cmpM {o : CmpOp} {r : R2} {op : D → D → M D} (ho : OpR X (compareOp o) r) (hd : Op2M X.K W r op) (ha : PD X W a fa) (hb : PD X W b fb) (hm : behindInMarks o b = false) : PDT X W (.Compare a [o] [b] pos) (tB (e2M op fa fb)) := imp_T (pt_cmpR ho ha hb hm) fun σ H Q h => t_test (fun _ _ _ => d_tOpM hd) h
/-- a method that is asked and raises nothing -/
theorem spD_ok {K : PySem.W.Frag} {mm : Nat} {fr : Fr} {F H : Hp} {σ : St} {ρ : Env} {n n' : Int} {ds : List D} {vs : List V} {d : D} {Q : VK} {E : XK} (hl : ds.length = mm) (R : Rel K W fr F H σ ρ n) (dd : Dens K W fr.dr F vs ds) (h : fx ds n = some (.ok d, n'))
    (k : ∀ F' H' w, Rel K W fr F' H' σ ρ n' → Sub F F' → Den K W fr.dr F' w d → Q w H') : spD K W fx mm vs H Q E :=
  ⟨by rw [dd.length]; exact hl, fr, F, n, ds, .ok d, n', R.core, dd, h, fun F2 H2 v c2 d2 => k F2 H2 v (R.back c2) c2.f0 d2⟩
def rOwn (K : PySem.W.Frag) (W : Wd) (c : Nat) (fx : FX) : R2 := fun x y H Q => (∃ p dx fs, x = .ref p ∧ H p = some (.ins (W.cl c) dx fs)) ∧ (∃ p dx fs, y = .ref p ∧ H p = some (.ins (W.cl c) dx fs)) ∧ spD K W fx 2 [x, y] H Q E0
def mOwn (c : Nat) (fx : FX) (x y : D) : M D := if isC c x && isC c y then fx [x, y] else M.opt none
theorem q_own {K : PySem.W.Frag} : Op2M K W (rOwn K W c fx) (mOwn c fx) := by
  intro fr F H σ ρ n n' x y d v u Q R dx dy h k
  unfold mOwn at h
  split at h
  · rename_i q
    rw [Bool.and_eq_true] at q
    exact ⟨isC_of R.core.sub dx q.1, isC_of R.core.sub dy q.2, spD_ok rfl R (.cons dx (.cons dy .nil)) h k⟩
  · cases (M.opt_ok h).1
/-- a == b by an own __eq__ -/
theorem o_ownCmp {o : CmpOp} {x : Str} (hu : X.A.units < cLine) (F : CalM X.prog X.w X.K X.mg X.base (W.cl c) x k (spD X.K W fx 2)) (hr : Room k X.A) (ho : (cmpInfo o).2.1 = x) (hcmp : ∀ v u, compareOp o v u = richCompare o v u) : OpR X (compareOp o) (rOwn X.K W c fx) := by
  obtain ⟨f, fd, ps, F, hm, hbd⟩ := F
  rintro pins s σ H x y v u Q I rx ry ⟨⟨p, dx, fs, rfl, hp⟩, ⟨q, dy, gs, rfl, hq⟩, sp⟩
  have ev : v = Value.ref p := rx
  have eu : u = Value.ref q := ry
  subst ev eu
  obtain ⟨mA, J, _⟩ := ins_get I.hok hp
  obtain ⟨mB, J', _⟩ := ins_get I.hok hq
  obtain ⟨od, J, _⟩ := J.look
  obtain ⟨od', J', _⟩ := J'.look
  obtain ⟨mm, hF⟩ := I.fr
  rw [hcmp]
  refine PySem.W.cmp_K hu hF I.ok.mod.kin J J'.type (by simp [PySem.W.notFirst]) (by rw [ho]; exact hm.at_) hm.fn (thn (run_fn (us := [.ref p, .ref q]) (vs := [.ref p, .ref q]) (dvs := []) (ds := []) F hr hbd .nil passN I (.cons rx (.cons ry .nil)) sp) ?_)
  rintro w s3 ⟨z, H3, I3, rz, qz⟩
  exact cmpBack_of rz ⟨z, H3, I3, rz, qz⟩
theorem o_ownEq (hu : X.A.units < cLine) (F : CalM X.prog X.w X.K X.mg X.base (W.cl c) "__eq__" k (spD X.K W fx 2)) (hr : Room k X.A) : OpR X (compareOp .Eq) (rOwn X.K W c fx) := o_ownCmp hu F hr rfl fun _ _ => rfl
theorem d_ownEq (hu : X.A.units < cLine) (F : CalM X.prog X.w X.K X.mg X.base (W.cl c) "__eq__" k (spD X.K W fx 2)) (hr : Room k X.A) (ha : PD X W a fa) (hb : PD X W b fb) : PD X W (.Compare a [.Eq] [b] pos) (e2M (mOwn c fx) fa fb) := d_cmpM (o_ownEq hu F hr) q_own ha hb (nomark _)
theorem t_ownEq (hu : X.A.units < cLine) (F : CalM X.prog X.w X.K X.mg X.base (W.cl c) "__eq__" k (spD X.K W fx 2)) (hr : Room k X.A) (ha : PD X W a fa) (hb : PD X W b fb) : PDT X W (.Compare a [.Eq] [b] pos) (tB (e2M (mOwn c fx) fa fb)) := t_cmpM (o_ownEq hu F hr) q_own ha hb (nomark _)
/-- x in c by an own __contains__ that gives a truth value -/
def rOwnIn (K : PySem.W.Frag) (W : Wd) (c : Nat) (fx : FX) (g : Bool → Bool) : R2 := fun x y H Q => (∃ p dx fs, y = .ref p ∧ H p = some (.ins (W.cl c) dx fs)) ∧ spD K W fx 2 [y, x] H (fun w H' => ∃ t, w = .bl t ∧ Q (.bl (g t)) H') E0
def mOwnIn (c : Nat) (fx : FX) (g : Bool → Bool) (x y : D) : M D := if isC c y then M.bind (fx [y, x]) (fun d => M.opt ((dBool d).map fun t => .bl (g t))) else M.opt none
theorem q_ownIn {K : PySem.W.Frag} {g : Bool → Bool} : Op2M K W (rOwnIn K W c fx g) (mOwnIn c fx g) := by
  intro fr F H σ ρ n n' x y d v u Q R dx dy h k
  unfold mOwnIn at h
  split at h
  · rename_i q
    obtain ⟨w, n1, h1, h2⟩ := M.bind_ok h
    obtain ⟨h3, h4⟩ := M.opt_ok h2
    subst h4
    refine ⟨isC_of R.core.sub dy q, spD_ok rfl R (.cons dy (.cons dx .nil)) h1 fun F1 H1 w1 R1 s1 d1 => ?_⟩
    cases w with
    | bl t => cases d1; cases h3; exact ⟨t, rfl, k F1 H1 _ R1 s1 (.bl _)⟩
    | _ => cases h3
  · cases (M.opt_ok h).1
theorem o_ownIn (F : CalM X.prog X.w X.K X.mg X.base (W.cl c) "__contains__" k (spD X.K W fx 2)) (hr : Room k X.A) : OpR X (compareOp .In) (rOwnIn X.K W c fx fun t => t) := by
  obtain ⟨f, fd, ps, F, hm, hbd⟩ := F
  rintro pins s σ H x y v u Q I rx ry ⟨⟨p, dx, fs, rfl, hp⟩, sp⟩
  have eu : u = Value.ref p := ry
  subst eu
  obtain ⟨mA, J, _⟩ := ins_get I.hok hp
  obtain ⟨od, J, _⟩ := J.look
  obtain ⟨mm, hF⟩ := I.fr
  refine PySem.W.in_K hF I.ok.mod.kin J hm.at_ hm.fn (thn (run_fn (us := [.ref p, v]) (vs := [.ref p, x]) (dvs := []) (ds := []) F hr hbd .nil passN I (.cons ry (.cons rx .nil)) sp) ?_)
  rintro w s3 ⟨z, H3, I3, rz, t, rfl, qz⟩
  have ew : w = Value.bool t := rz
  subst ew
  exact wpAny_truthy_bool ⟨.bl t, H3, I3, rfl, qz⟩
theorem o_ownNi (F : CalM X.prog X.w X.K X.mg X.base (W.cl c) "__contains__" k (spD X.K W fx 2)) (hr : Room k X.A) : OpR X (compareOp .NotIn) (rOwnIn X.K W c fx fun t => !t) := by
  obtain ⟨f, fd, ps, F, hm, hbd⟩ := F
  rintro pins s σ H x y v u Q I rx ry ⟨⟨p, dx, fs, rfl, hp⟩, sp⟩
  have eu : u = Value.ref p := ry
  subst eu
  obtain ⟨mA, J, _⟩ := ins_get I.hok hp
  obtain ⟨od, J, _⟩ := J.look
  obtain ⟨mm, hF⟩ := I.fr
  refine PySem.W.notIn_K hF I.ok.mod.kin J hm.at_ hm.fn (thn (run_fn (us := [.ref p, v]) (vs := [.ref p, x]) (dvs := []) (ds := []) F hr hbd .nil passN I (.cons ry (.cons rx .nil)) sp) ?_)
  rintro w s3 ⟨z, H3, I3, rz, t, rfl, qz⟩
  have ew : w = Value.bool t := rz
  subst ew
  exact wpAny_truthy_bool ⟨.bl (!t), H3, I3, rfl, qz⟩
theorem d_ownIn (F : CalM X.prog X.w X.K X.mg X.base (W.cl c) "__contains__" k (spD X.K W fx 2)) (hr : Room k X.A) (ha : PD X W a fa) (hb : PD X W b fb) (hm : behindInMarks .In b = false := by with_unfolding_all rfl) : PD X W (.Compare a [.In] [b] pos) (e2M (mOwnIn c fx fun t => t) fa fb) := d_cmpM (o_ownIn F hr) q_ownIn ha hb hm
theorem t_ownIn (F : CalM X.prog X.w X.K X.mg X.base (W.cl c) "__contains__" k (spD X.K W fx 2)) (hr : Room k X.A) (ha : PD X W a fa) (hb : PD X W b fb) (hm : behindInMarks .In b = false := by with_unfolding_all rfl) : PDT X W (.Compare a [.In] [b] pos) (tB (e2M (mOwnIn c fx fun t => t) fa fb)) := t_cmpM (o_ownIn F hr) q_ownIn ha hb hm
theorem d_ownNi (F : CalM X.prog X.w X.K X.mg X.base (W.cl c) "__contains__" k (spD X.K W fx 2)) (hr : Room k X.A) (ha : PD X W a fa) (hb : PD X W b fb) (hm : behindInMarks .NotIn b = false := by with_unfolding_all rfl) : PD X W (.Compare a [.NotIn] [b] pos) (e2M (mOwnIn c fx fun t => !t) fa fb) := d_cmpM (o_ownNi F hr) q_ownIn ha hb hm
theorem t_ownNi (F : CalM X.prog X.w X.K X.mg X.base (W.cl c) "__contains__" k (spD X.K W fx 2)) (hr : Room k X.A) (ha : PD X W a fa) (hb : PD X W b fb) (hm : behindInMarks .NotIn b = false := by with_unfolding_all rfl) : PDT X W (.Compare a [.NotIn] [b] pos) (tB (e2M (mOwnIn c fx fun t => !t) fa fb)) := t_cmpM (o_ownNi F hr) q_ownIn ha hb hm
/-- one operand -/
def e1M (op : D → M D) (fa : EX) : EX := fun ρ => M.bind (fa ρ) fun x => M.calm (op x)
def mOwn1 (c : Nat) (fx : FX) (x : D) : M D := if isC c x then fx [x] else M.opt none
/-- an own method of one instance, as a reading -/
theorem own1_of {σ : St} {H : Hp} {Q : VK} (h : tD X W (e1M (mOwn1 c fx) fa) σ H Q) : tD X W fa σ H fun x H1 => (∃ p dx fs, x = .ref p ∧ H1 p = some (.ins (W.cl c) dx fs)) ∧ spD X.K W fx 1 [x] H1 Q E0 := by
  obtain ⟨fr, F, ρ, n, r, n', R, e, k⟩ := h
  rcases M.bind_any e with ⟨z, e1, rfl⟩ | ⟨x, n1, e1, h⟩
  · exact ⟨fr, F, ρ, n, .error z, n', R, e1, k⟩
  refine ⟨fr, F, ρ, n, .ok x, n1, R, e1, fun F1 H1 v R1 s1 d1 => ?_⟩
  rcases r with z | d
  · exact (M.calm_err h).elim
  have h := M.calm_ok h
  unfold mOwn1 at h
  split at h
  · rename_i q
    exact ⟨isC_of R1.core.sub d1 q, spD_ok rfl R1 (.cons d1 .nil) h fun F2 H2 w R2 s2 d2 => k F2 H2 w R2 (s1.trans s2) d2⟩
  · cases (M.opt_ok h).1
/-- ~a by an own __invert__ -/
theorem d_ownInv (F : CalM X.prog X.w X.K X.mg X.base (W.cl c) "__invert__" k (spD X.K W fx 1)) (hr : Room k X.A) (ha : PD X W a fa) : PD X W (.UnaryOp .Invert a pos) (e1M (mOwn1 c fx) fa) := by
  obtain ⟨f, fd, ps, F, hm, hbd⟩ := F
  constructor
  intro pins s σ H Q I h
  refine UnaryOp_ (thn (ha.run pins s σ H _ I (own1_of h)) ?_)
  rintro v s1 ⟨x, H1, I1, rx, ⟨p, dx, fs, rfl, hp⟩, sp⟩
  have ev : v = Value.ref p := rx
  subst ev
  obtain ⟨mA, J, _⟩ := ins_get I1.hok hp
  obtain ⟨od, J, _⟩ := J.look
  obtain ⟨mm, hF⟩ := I1.fr
  exact PySem.W.ksp_inv hF I1.ok.mod.kin J hm.at_ hm.fn (run_fn (us := [.ref p]) (vs := [.ref p]) (dvs := []) (ds := []) F hr hbd .nil passN I1 (.cons rx .nil) sp)
/-- the truth of an instance by an own __bool__ -/
def tOwn (c : Nat) (fx : FX) (fa : EX) : TX := fun ρ => M.bind (e1M (mOwn1 c fx) fa ρ) fun d => M.opt (dBool d)
theorem tOwn_of {σ : St} {H : Hp} {Q : Bool → Hp → Prop} (h : tT X W (tOwn c fx fa) σ H Q) : tD X W fa σ H fun x H1 => (∃ p dx fs, x = .ref p ∧ H1 p = some (.ins (W.cl c) dx fs)) ∧ spD X.K W fx 1 [x] H1 (fun w H' => ∃ t, w = .bl t ∧ Q t H') E0 := by
  obtain ⟨fr, F, ρ, n, r, n', R, e, k⟩ := h
  rcases M.bind_any e with ⟨z, e1, rfl⟩ | ⟨d, n1, e1, h⟩
  · exact own1_of ⟨fr, F, ρ, n, .error z, n', R, e1, k⟩
  rcases r with z | t
  · exact (M.opt_err h).elim
  obtain ⟨h1, h2⟩ := M.opt_ok h
  subst h2
  refine own1_of ⟨fr, F, ρ, n, .ok d, _, R, e1, fun F1 H1 v R1 s1 d1 => ?_⟩
  unfold dBool at h1
  split at h1
  · cases h1; cases d1; exact ⟨_, rfl, k F1 H1 R1 s1⟩
  · cases h1
theorem truthy_own {f : Addr} {fd : FuncData} {ps : List Str} {pins : List (Addr × Obj)} {s1 : Shared} {σ : St} {H1 : Hp} {Q : Bool → Hp → Prop} {x : V} {v : Value} (F : FnOk X.prog X.w X.K X.mg X.base (L2.CX X.prog X.w) k f fd ps (spD X.K W fx 1)) (hm : Meth X.K (W.cl c) "__bool__" f) (hbd : Binds X.K fd ps []) (hr : Room k X.A)
    (I1 : Inv X pins σ H1 s1) (rx : RelV x v) (h : (∃ p dx fs, x = .ref p ∧ H1 p = some (.ins (W.cl c) dx fs)) ∧ spD X.K W fx 1 [x] H1 (fun w H' => ∃ t, w = .bl t ∧ Q t H') E0) : wpAny (model X.prog X.w) X.A (truthy v) (TP X pins σ Q) X.xe s1 := by
  obtain ⟨⟨p, dx, fs, rfl, hp⟩, sp⟩ := h
  have ev : v = Value.ref p := rx
  subst ev
  obtain ⟨mA, J, _⟩ := ins_get I1.hok hp
  obtain ⟨od, J, _⟩ := J.look
  obtain ⟨mm, hF⟩ := I1.fr
  refine PySem.W.truthy_K hF I1.ok.mod.kin J hm.at_ hm.fn (thn (run_fn (us := [.ref p]) (vs := [.ref p]) (dvs := []) (ds := []) F hr hbd .nil passN I1 (.cons rx .nil) sp) ?_)
  rintro w s3 ⟨z, H3, I3, rz, t, rfl, qz⟩
  have ew : w = Value.bool t := rz
  subst ew
  exact ⟨H3, I3, qz⟩
theorem t_own (F : CalM X.prog X.w X.K X.mg X.base (W.cl c) "__bool__" k (spD X.K W fx 1)) (hr : Room k X.A) (ha : PD X W a fa) (he : ∀ whole, isTrue a X.env whole = (do let v ← whole; standAt a.pos; holding [v] (truthy v)) := by intro _; rfl) : PDT X W a (tOwn c fx fa) := by
  obtain ⟨f, fd, ps, F, hm, hbd⟩ := F
  constructor
  intro pins s σ H Q I h
  refine isTrue_plain (thn (ha.run pins s σ H _ I (tOwn_of h)) ?_) (he _)
  rintro v s1 ⟨x, H1, I1, rx, q⟩
  exact truthy_own F hm hbd hr I1 rx q
/-- not a, as a value -/
def eNotT (t : TX) : EX := fun ρ => M.bind (t ρ) fun b => M.pure (.bl (!b))
theorem notT_of {t : TX} {σ : St} {H : Hp} {Q : VK} (h : tD X W (eNotT t) σ H Q) : tT X W t σ H fun b H' => Q (.bl (!b)) H' := by
  obtain ⟨fr, F, ρ, n, r, n', R, e, k⟩ := h
  rcases M.bind_any e with ⟨z, e1, rfl⟩ | ⟨b, n1, e1, h⟩
  · exact ⟨fr, F, ρ, n, .error z, n', R, e1, k⟩
  · obtain ⟨h1, h2⟩ := M.pure_any h
    subst h1 h2
    exact ⟨fr, F, ρ, n, .ok b, _, R, e1, fun F1 H1 R1 s1 => k F1 H1 _ R1 s1 (.bl _)⟩
theorem d_ownNot (F : CalM X.prog X.w X.K X.mg X.base (W.cl c) "__bool__" k (spD X.K W fx 1)) (hr : Room k X.A) (ha : PD X W a fa) : PD X W (.UnaryOp .Not a pos) (eNotT (tOwn c fx fa)) := by
  obtain ⟨f, fd, ps, F, hm, hbd⟩ := F
  constructor
  intro pins s σ H Q I h
  refine UnaryOp_ (thn (ha.run pins s σ H _ I (tOwn_of (notT_of h))) ?_)
  rintro v s1 ⟨x, H1, I1, rx, q⟩
  refine not_of (thn (truthy_own F hm hbd hr I1 rx q) ?_)
  rintro t s2 ⟨H2, I2, q2⟩
  exact ⟨.bl (!t), H2, I2, rfl, q2⟩
/-- e.f, a property -/
theorem d_prop {p g : Addr} {fd : FuncData} {ps : List Str} {f : Str} (cl : Cls X.K (W.cl c)) (hp : PropOf X.K (W.cl c) f p g) (F : FnOk X.prog X.w X.K X.mg X.base (L2.CX X.prog X.w) k g fd ps (spD X.K W fx 1)) (hr : Room (k + 1) X.A) (hb : Binds X.K fd ps []) (ha : PD X W a fa)
    (hab : attributeBase a f X.env (eval a X.env) = eval a X.env := by rfl) : PD X W (.Attribute a f pos) (e1M (mOwn1 c fx) fa) := imp_E (pe_prop (E := E0) (dvs := []) (ds := []) ha cl hp F hr hb .nil passN hab) fun σ H Q h => by
  obtain ⟨fr, F, ρ, n, r, n', R, e, k⟩ := own1_of h
  refine ⟨fr, F, ρ, n, r, n', R, e, ?_⟩
  cases r with
  | error z => exact k
  | ok d =>
    intro F1 H1 v R1 s1 d1
    obtain ⟨⟨p, dx, fs, rfl, q⟩, sp⟩ := k F1 H1 v R1 s1 d1
    exact ⟨p, dx, fs, rfl, q, sp⟩
end
end DL
end

section
set_option Elab.async false
set_option linter.all false
set_option autoImplicit false
set_option maxRecDepth 100000
set_option maxHeartbeats 1000000
namespace DL
open PySem PySem.Spec L2
/-! ### a != b by an own __eq__ -/
section
variable {X : Cx} {W : Wd} {c k : Nat} {pos : Pos} {a b : Expr} {fa fb : EX} {fx : FX}
def rOwnNe (K : PySem.W.Frag) (W : Wd) (c : Nat) (fx : FX) : R2 := fun x y H Q => (∃ p dx fs, x = .ref p ∧ H p = some (.ins (W.cl c) dx fs)) ∧ (∃ p dx fs, y = .ref p ∧ H p = some (.ins (W.cl c) dx fs)) ∧ spD K W fx 2 [x, y] H (fun w H' => ∃ t, w = .bl t ∧ Q (.bl (!t)) H') E0
def mOwnNe (c : Nat) (fx : FX) (x y : D) : M D := if isC c x && isC c y then M.bind (fx [x, y]) (fun d => M.opt ((dBool d).map fun t => .bl (!t))) else M.opt none
theorem q_ownNe {K : PySem.W.Frag} : Op2M K W (rOwnNe K W c fx) (mOwnNe c fx) := by
  intro fr F H σ ρ n n' x y d v u Q R dx dy h k
  unfold mOwnNe at h
  split at h
  · rename_i q
    rw [Bool.and_eq_true] at q
    obtain ⟨w, n1, h1, h2⟩ := M.bind_ok h
    obtain ⟨h3, h4⟩ := M.opt_ok h2
    subst h4
    refine ⟨isC_of R.core.sub dx q.1, isC_of R.core.sub dy q.2, spD_ok rfl R (.cons dx (.cons dy .nil)) h1 fun F1 H1 w1 R1 s1 d1 => ?_⟩
    cases w with
    | bl t => cases d1; cases h3; exact ⟨t, rfl, k F1 H1 _ R1 s1 (.bl _)⟩
    | _ => cases h3
  · cases (M.opt_ok h).1
/-- a method run within a built-in -/
theorem run_in1 {f : Addr} {fd : FuncData} {ps : List Str} {sp : Sp} {pins : List (Addr × Obj)} {σ : St} {H : Hp} {s : Shared} {Q : VK} {us : List Value} {vs : List V} {E' : Value → Shared → Prop} (F : FnOk X.prog X.w X.K X.mg X.base (L2.CX X.prog X.w) k f fd ps sp) (hr : Room (k + 1) X.A) (hb : Binds X.K fd ps [])
    (I : Inv X pins σ H s) (r : Vals vs us) (h : sp vs H Q E0) : wpAny (model X.prog X.w) X.A.in1 (call (.ref f) us) (EP X pins σ Q) E' s := by
  have hl : (us ++ []).length = ps.length := by rw [List.append_nil, ← r.length]; exact F.len _ _ _ _ h
  have b := hb s us I.kIn hl
  rw [List.append_nil] at b
  refine wpAny_call (codeAny_mono (F.run X.A.in1 X.stack s H ⟨us, []⟩ us vs Q E0 hr.in1 I.env0.in1 b r h) ?_)
  rintro (e | fl) s' hq
  · exact (passN (X := X) pins σ H s e s' I hq |> fun _ => by
      obtain ⟨_, _, _, _, _, _, _, _, _, _, _, _, z⟩ := hq
      exact z.elim)
  · cases fl with
    | ret u => exact I.after hq
    | next => exact hq.elim
    | brk => exact hq.elim
    | cont => exact hq.elim
theorem o_ownNe (hu : X.A.units + 1 < cLine) (F : CalM X.prog X.w X.K X.mg X.base (W.cl c) "__eq__" k (spD X.K W fx 2)) (hr : Room (k + 1) X.A) (hne : PySem.W.findIn X.K (.ref (W.cl c)) "__ne__" = some (some (.builtin "object.__ne__")))
    (hob : PySem.W.subIn X.K (.ref (W.cl c)) (.type "object") = some true) : OpR X (compareOp .NotEq) (rOwnNe X.K W c fx) := by
  obtain ⟨f, fd, ps, F, hm, hbd⟩ := F
  rintro pins s σ H x y v u Q I rx ry ⟨⟨p, dx, fs, rfl, hp⟩, ⟨q, dy, gs, rfl, hq⟩, sp⟩
  have ev : v = Value.ref p := rx
  have eu : u = Value.ref q := ry
  subst ev eu
  obtain ⟨mA, J, _⟩ := ins_get I.hok hp
  obtain ⟨mB, J', _⟩ := ins_get I.hok hq
  obtain ⟨od, J, _⟩ := J.look
  obtain ⟨od', J', _⟩ := J'.look
  have hu0 : X.A.units < cLine := Nat.lt_of_succ_lt hu
  show wpAny _ _ (richCompare .NotEq (.ref p) (.ref q)) _ _ _
  have S := PySem.F.cmp_object.ne
  have one : wpAny (model X.prog X.w) X.A (tryCompare (.ref p) "__ne__" (.ref q)) (fun r s' => ∃ v, r = some v ∧ EP X pins σ Q v s') X.xe s := by
    have fin : wpAny (model X.prog X.w) X.A (call (.builtin "object.__ne__") ([.ref p] ++ [.ref q]) >>= fun v => pure (some v)) (fun r s' => wpAny (model X.prog X.w) X.A (match r with | some .notImplemented | none => pure none | some v => pure (some v)) (fun r s' => ∃ v, r = some v ∧ EP X pins σ Q v s') X.xe s') X.xe s := by
      refine wpAny_bind (wpAny_call (codeAny_call_builtin S.plain PySem.F.cmpEntry_ne (PySem.W.check_slot PySem.F.cmpKind_ne PySem.F.cmpSplit_ne (J.type.andThen (PySem.W.looks_subIn I.kIn hob)) (PySem.F.cmpArgs_ne _ _) ?_)))
      unfold Builtin.«object.__ne__»
      have eqq := PySem.W.ifBound_K (M := model X.prog X.w) (A := X.A.in1) (args := [.ref q]) (Q := fun r s' => ∃ t, r = some (.bool t) ∧ EP X pins σ Q (.bool (!t)) s') I.kIn J hm.at_ hm.fn (wpAny_mono (run_in1 (us := [.ref p, .ref q]) (vs := [.ref p, .ref q]) (E' := fun e s' => wants (fun v s' => wpAny (model X.prog X.w) X.A (pure (some v)) (fun r s' => wpAny (model X.prog X.w) X.A (match r with | some .notImplemented | none => pure none | some v => pure (some v)) (fun r s' => ∃ v, r = some v ∧ EP X pins σ Q v s') X.xe s') X.xe s') X.xe (.error e) s') F hr hbd I (.cons rx (.cons ry .nil)) sp) (fun w s3 ⟨z, H3, I3, rz, t, ez, qz⟩ => by
        subst ez
        have ew : w = Value.bool t := rz
        subst ew
        exact ⟨t, rfl, .bl (!t), H3, I3, rfl, qz⟩) fun _ _ e => e)
      repeat (first | with_reducible refine wpAny_cRoomFor hu ?_ | with_reducible refine wpAny_bind (wpAny_mono eqq ?_ fun _ _ e => e) | wp_step)
      rintro _ s3 ⟨t, rfl, q⟩
      refine wpAny_bind (wpAny_truthy_bool ?_)
      refine wpAny_pure ?_
      refine wpAny_pure ?_
      exact wpAny_pure ⟨_, rfl, q⟩
    unfold tryCompare
    refine wpAny_bind ?_
    simp only [callSpecialIfBound?, bindSpecialIfBound?]
    refine wpAny_holding (wpAny_bind (wpAny_bind (wpAny_bind (J.type.here ((PySem.W.looks_findIn I.kIn hne).here ?_)))))
    simp only [S.bind]
    refine wpAny_bind (wpAny_askSetting (wpAny_ite ?_))
    split
    · exact wpAny_bind (wpAny_pure (wpAny_pure fin))
    · exact wpAny_tryCatch (wpAny_bind (wpAny_pure (wpAny_pure fin)))
  unfold richCompare
  simp only [oneThing_ref]
  refine wpAny_holding (wpAny_bind (wpAny_cRoomFor hu0 ?_))
  refine wpAny_bind (J.type.here (wpAny_bind (J'.type.here ?_)))
  rw [if_neg (by simp)]
  refine wpAny_bind (wpAny_pure ?_)
  simp only [Bool.false_eq_true, if_false]
  refine wpAny_bind (wpAny_mono one (fun r s' z => ?_) fun _ _ e => e)
  obtain ⟨v, rfl, hq⟩ := z
  exact wpAny_pure hq
theorem d_ownNe (hu : X.A.units + 1 < cLine) (F : CalM X.prog X.w X.K X.mg X.base (W.cl c) "__eq__" k (spD X.K W fx 2)) (hr : Room (k + 1) X.A) (hne : PySem.W.findIn X.K (.ref (W.cl c)) "__ne__" = some (some (.builtin "object.__ne__")))
    (hob : PySem.W.subIn X.K (.ref (W.cl c)) (.type "object") = some true) (ha : PD X W a fa) (hb : PD X W b fb) : PD X W (.Compare a [.NotEq] [b] pos) (e2M (mOwnNe c fx) fa fb) := d_cmpM (o_ownNe hu F hr hne hob) q_ownNe ha hb (nomark _)
theorem t_ownNe (hu : X.A.units + 1 < cLine) (F : CalM X.prog X.w X.K X.mg X.base (W.cl c) "__eq__" k (spD X.K W fx 2)) (hr : Room (k + 1) X.A) (hne : PySem.W.findIn X.K (.ref (W.cl c)) "__ne__" = some (some (.builtin "object.__ne__")))
    (hob : PySem.W.subIn X.K (.ref (W.cl c)) (.type "object") = some true) (ha : PD X W a fa) (hb : PD X W b fb) : PDT X W (.Compare a [.NotEq] [b] pos) (tB (e2M (mOwnNe c fx) fa fb)) := t_cmpM (o_ownNe hu F hr hne hob) q_ownNe ha hb (nomark _)
end
end DL
end

section
set_option Elab.async false
set_option linter.all false
set_option autoImplicit false
set_option maxRecDepth 100000
set_option maxHeartbeats 1000000
namespace DL
open PySem PySem.Spec L2 RZ
section
variable {X : Cx} {W : Wd} {pos : Pos} {a b : Expr} {fa fb : EX}
/-! ### zip of two lists, two tuples -/
def zipD (xs ys : List D) : List D := (xs.zip ys).map fun p => .tup [p.1, p.2]
def dZip : List D → Option (List D)
  | [.lst xs, .lst ys] => some (zipD xs ys)
  | [.tup xs, .tup ys] => some (zipD xs ys)
  | _ => none
def iZipD (f : EXs) : IX := fun ρ => M.bind (f ρ) fun ds => M.opt (dZip ds)
theorem zip_turn {K : PySem.W.Frag} {fr : Fr} {F H H' : Hp} {σ : St} {ρ : Env} {n : Int} {i T : Nat} {x y : V} {xs ys : List V} {ds es : List D} {d : D} (R : Rel K W fr F H σ ρ n) (hx : Dens K W fr.dr F xs ds) (hy : Dens K W fr.dr F ys es) (hd : (zipD ds es)[i]? = some d)
    (hT : H T = none) (hH : H' = upd H T (.tup [x, y])) (h1 : xs[i]? = some x) (h2 : ys[i]? = some y) : ∃ F', Rel K W fr F' H' σ ρ n ∧ Sub F F' ∧ Den K W fr.dr F' (.ref T) d := by
  subst hH
  unfold zipD at hd
  rw [List.getElem?_map] at hd
  obtain ⟨p, hp, e⟩ := Option.map_eq_some_iff.mp hd
  subst e
  obtain ⟨d1, e1, q1⟩ := hx.get' h1
  obtain ⟨d2, e2, q2⟩ := hy.get' h2
  have : p = (d1, d2) := by
    have := List.getElem?_zip_eq_some.mp hp
    rw [e1, e2] at this
    obtain ⟨a1, a2⟩ := this
    cases a1; cases a2; rfl
  subst this
  exact ⟨_, R.fresh hT, R.core.sub.new hT, Core.freshTup (H := H) (n := n) (.cons q1 (.cons q2 .nil)) (R.core.noF hT)⟩
theorem zip_len (ds es : List D) : (zipD ds es).length = min ds.length es.length := by simp [zipD]
theorem it_zipL {K : PySem.W.Frag} {dr : Option Addr} {F0 : Hp} {p q : Addr} {xs ys : List V} {ds es : List D} (h1 : F0 p = some (.lst xs)) (h2 : F0 q = some (.lst ys)) (d1 : Dens K W dr F0 xs ds) (d2 : Dens K W dr F0 ys es) : ItOk K W dr F0 (Itz K p q) (zipD ds es) := fun fr F H σ ρ n i edr R s => by
  subst edr
  have g1 : H p = some (.lst xs) := R.core.sub _ _ (s _ _ h1)
  have g2 : H q = some (.lst ys) := R.core.sub _ _ (s _ _ h2)
  refine ⟨fun d e => ?_, fun e => ⟨xs, ys, SqL.of g1, SqL.of g2, by rw [zip_len] at e; rw [d1.length, d2.length]; omega⟩⟩
  have hi := (List.getElem?_eq_some_iff.mp e).1
  rw [zip_len] at hi
  obtain ⟨x, ex⟩ : ∃ x, xs[i]? = some x := ⟨_, List.getElem?_eq_getElem (by rw [d1.length]; omega)⟩
  obtain ⟨y, ey⟩ : ∃ y, ys[i]? = some y := ⟨_, List.getElem?_eq_getElem (by rw [d2.length]; omega)⟩
  refine ⟨⟨xs, ys, x, y, SqL.of g1, SqL.of g2, ex, ey⟩, ?_⟩
  rintro v H' ⟨T, x', y', rfl, hT, hH, k1, k2⟩
  exact zip_turn R (d1.mono s fun _ z => z) (d2.mono s fun _ z => z) e hT hH (k1 _ (SqL.of g1)) (k2 _ (SqL.of g2))
theorem it_zipT {K : PySem.W.Frag} {dr : Option Addr} {F0 : Hp} {p q : Addr} {xs ys : List V} {ds es : List D} (h1 : SqT K F0 p xs) (h2 : SqT K F0 q ys) (d1 : Dens K W dr F0 xs ds) (d2 : Dens K W dr F0 ys es) : ItOk K W dr F0 (ItzT K p q) (zipD ds es) := fun fr F H σ ρ n i edr R s => by
  subst edr
  have g1 : SqT K H p xs := R.core.sub.sqT (s.sqT h1)
  have g2 : SqT K H q ys := R.core.sub.sqT (s.sqT h2)
  refine ⟨fun d e => ?_, fun e => ⟨xs, ys, g1, g2, by rw [zip_len] at e; rw [d1.length, d2.length]; omega⟩⟩
  have hi := (List.getElem?_eq_some_iff.mp e).1
  rw [zip_len] at hi
  obtain ⟨x, ex⟩ : ∃ x, xs[i]? = some x := ⟨_, List.getElem?_eq_getElem (by rw [d1.length]; omega)⟩
  obtain ⟨y, ey⟩ : ∃ y, ys[i]? = some y := ⟨_, List.getElem?_eq_getElem (by rw [d2.length]; omega)⟩
  refine ⟨⟨xs, ys, x, y, g1, g2, ex, ey⟩, ?_⟩
  rintro v H' ⟨T, x', y', rfl, hT, hH, k1, k2⟩
  exact zip_turn R (d1.mono s fun _ z => z) (d2.mono s fun _ z => z) e hT hH (k1 _ g1) (k2 _ g2)
theorem i_zip {e e2 : Expr} {f : EXs} {p tpos : Pos} {elts : List Expr} {kk : Nat} (hg : Gl X "zip") (hm : X.mg "zip" = none) (ha : PDs X W [e, e2] f) (hs : starEach [e, e2] X.env = (false, eval e X.env) :: starEach [e2] X.env := by rfl) (hpl : (backTo pos (starEach [e2] X.env)).any (·.1) = false := by rfl) :
    PDI X W (.Tuple elts kk tpos) (.Call (.Name "zip" p) [e, e2] [] pos) (iZipD f) := imp_I (pi_zipA hg hm ha hs hpl) fun σ H R ⟨fr, F, ρ, n, r, n', R0, ev, k⟩ => by
  rcases r with z | ds
  · exact R0.dsE1 ev k
  obtain ⟨x, n1, e1, h⟩ := M.bind_ok ev
  obtain ⟨h1, h2⟩ := M.opt_ok h
  subst h2
  refine ⟨fr, F, ρ, n, .ok x, _, R0, e1, fun F1 H1 vs R1 s1 d1 => ?_⟩
  unfold dZip at h1
  split at h1
  · cases h1
    cases d1 with
    | cons q1 d2 => cases d2 with
      | cons q2 d3 =>
        cases d3
        cases q1 with
        | lst a1 a2 => cases q2 with
          | lst b1 b2 => exact ⟨_, _, _, _, rfl, .inl ⟨SqL.of (R1.core.sub _ _ a1), SqL.of (R1.core.sub _ _ b1), k F1 H1 _ R1 s1 (it_zipL a1 b1 a2 b2)⟩⟩
  · cases h1
    cases d1 with
    | cons q1 d2 => cases d2 with
      | cons q2 d3 =>
        cases d3
        cases q1 with
        | tup a1 a2 => cases q2 with
          | tup b1 b2 => exact ⟨_, _, _, _, rfl, .inr ⟨R1.core.sub.sqT a1, R1.core.sub.sqT b1, k F1 H1 _ R1 s1 (it_zipT a1 b1 a2 b2)⟩⟩
  · cases h1
/-! ### x in a list, a tuple of flat items, a dict -/
def flatD : D → Bool
  | .non => true
  | .bl _ => true
  | .int _ => true
  | .str _ => true
  | _ => false
def eqF : D → D → Bool
  | .non, .non => true
  | .bl a, .bl b => a == b
  | .bl a, .int b => (if a then 1 else 0) == b
  | .int a, .bl b => a == (if b then 1 else 0)
  | .int a, .int b => a == b
  | .str a, .str b => a == b
  | _, _ => false
theorem flat_of {K : PySem.W.Frag} {dr : Option Addr} {F : Hp} {v : V} {d : D} (h : Den K W dr F v d) (e : flatD d = true) : flatV v = true := by
  cases h <;> first | rfl | cases e
theorem eqF_of {K : PySem.W.Frag} {dr : Option Addr} {F : Hp} {v u : V} {d e : D} (h : Den K W dr F v d) (h' : Den K W dr F u e) (f : flatD d = true) (g : flatD e = true) : eqV v u = eqF d e := by
  cases h <;> cases h' <;> first | rfl | cases f | cases g
theorem flats_of {K : PySem.W.Frag} {dr : Option Addr} {F : Hp} : ∀ {vs : List V} {ds : List D}, Dens K W dr F vs ds → ds.all flatD = true → vs.all flatV = true
  | _, _, .nil, _ => rfl
  | _, _, .cons h r, e => by
    rw [List.all_cons, Bool.and_eq_true] at e
    rw [List.all_cons, flat_of h e.1, flats_of r e.2]; rfl
theorem inV_of {K : PySem.W.Frag} {dr : Option Addr} {F : Hp} {v : V} {d : D} (h : Den K W dr F v d) (f : flatD d = true) : ∀ {vs : List V} {ds : List D}, Dens K W dr F vs ds → ds.all flatD = true → inV v vs = ds.any fun e => eqF e d
  | _, _, .nil, _ => rfl
  | _, _, .cons h1 r, e => by
    rw [List.all_cons, Bool.and_eq_true] at e
    have := inV_of h f r e.2
    unfold inV at this ⊢
    rw [List.any_cons, List.any_cons, this, eqF_of h1 h e.1 f]
def dInB (x y : D) : Option Bool := match y with
  | .lst ys => if flatD x && ys.all flatD then some (ys.any fun e => eqF e x) else none
  | .tup ys => if flatD x && ys.all flatD then some (ys.any fun e => eqF e x) else none
  | .dic ks vs => (match keyD x with
    | some k => some (valD ks vs k).isSome
    | none => none)
  | _ => none
def dIn (x y : D) : Option D := match dInB x y with | some t => some (.bl t) | none => none
def dNi (x y : D) : Option D := match dInB x y with | some t => some (.bl (!t)) | none => none
def rDinG (g : Bool → Bool) : R2 := fun y x H Q => ∃ a o, x = .ref a ∧ DGet H a y o ∧ Q (.bl (g o.isSome)) H
theorem o_din (hu : X.A.units + 1 < cLine) : OpR X (compareOp .In) (rDinG fun t => t) := by
  rintro pins s σ H x y v u Q I rx ry ⟨p, o, rfl, g, q⟩
  have eu : u = Value.ref p := ry
  subst eu
  exact d_in hu I g rx fun s3 I3 => ⟨.bl o.isSome, H, I3, rfl, q⟩
theorem o_dni (hu : X.A.units + 1 < cLine) : OpR X (compareOp .NotIn) (rDinG fun t => !t) := by
  rintro pins s σ H x y v u Q I rx ry ⟨p, o, rfl, g, q⟩
  have eu : u = Value.ref p := ry
  subst eu
  exact d_notIn hu I g rx fun s3 I3 => ⟨.bl (!o.isSome), H, I3, rfl, q⟩
theorem valD_some {κ : Type} [DecidableEq κ] {K : PySem.W.Frag} {dr : Option Addr} {F : Hp} {k : κ} : ∀ {ks : List κ} {vs : List V} {ds : List D}, ks.length = vs.length → Dens K W dr F vs ds → (valV (ks.zip vs) k).isSome = (valD ks ds k).isSome
  | [], _, _, _, _ => by simp [valV, valD]
  | x :: xs, [], _, l, _ => by cases l
  | x :: xs, v :: vs, _, l, .cons h1 h2 => by
    rw [List.zip_cons_cons]
    unfold valD
    by_cases q : x = k
    · rw [if_pos q, valV_pos q]
      rfl
    · rw [if_neg q, valV_neg q]
      exact valD_some (ks := xs) (by simpa using l) h2
def rInA (K : PySem.W.Frag) (neg : Bool) : R2 := fun x y H Q => rIn K neg x y H Q ∨ rDinG (fun t => if neg then !t else t) x y H Q
theorem o_in (hu : X.A.units + 1 < cLine) : OpR X (compareOp .In) (rInA X.K false) := op_in_seq.or (o_din hu)
theorem o_ni (hu : X.A.units + 1 < cLine) : OpR X (compareOp .NotIn) (rInA X.K true) := op_notIn_seq.or (o_dni hu)
theorem q_inA {K : PySem.W.Frag} {fr : Fr} {F H : Hp} {σ : St} {ρ : Env} {n : Int} {x y : D} {t : Bool} {v u : V} {Q : VK} {neg : Bool} (R : Rel K W fr F H σ ρ n) (dx : Den K W fr.dr F v x) (dy : Den K W fr.dr F u y) (h : dInB x y = some t) (k : Q (.bl (if neg then !t else t)) H) : rInA K neg v u H Q := by
  unfold dInB at h
  split at h
  · split at h
    · rename_i q
      rw [Bool.and_eq_true] at q
      cases h
      cases dy with
      | lst h1 h2 => exact .inl ⟨_, _, rfl, .inl (SqL.of (R.core.sub _ _ h1)), flat_of dx q.1, flats_of h2 q.2, by rw [inV_of dx q.1 h2 q.2]; exact k⟩
    · cases h
  · split at h
    · rename_i q
      rw [Bool.and_eq_true] at q
      cases h
      cases dy with
      | tup h1 h2 => exact .inl ⟨_, _, rfl, .inr (R.core.sub.sqT h1), flat_of dx q.1, flats_of h2 q.2, by rw [inV_of dx q.1 h2 q.2]; exact k⟩
    · cases h
  · split at h
    · rename_i ks vs key q
      cases h
      cases dy with
      | dic l h1 h2 =>
        refine .inr ⟨_, _, rfl, .inl ⟨_, key, R.core.sub.rd h1, key_of dx q, rfl⟩, ?_⟩
        rw [valD_some l h2]
        exact k
    · cases h
  · cases h
theorem q_in {K : PySem.W.Frag} : Op2 K W (rInA K false) dIn := by
  intro fr F H σ ρ n x y d v u Q R dx dy h k
  unfold dIn at h
  split at h
  · cases h
    exact q_inA R dx dy ‹_› (k F H _ R (Sub.refl _) (.bl _))
  · cases h
theorem q_ni {K : PySem.W.Frag} : Op2 K W (rInA K true) dNi := by
  intro fr F H σ ρ n x y d v u Q R dx dy h k
  unfold dNi at h
  split at h
  · cases h
    exact q_inA R dx dy ‹_› (k F H _ R (Sub.refl _) (.bl _))
  · cases h
theorem d_in (hu : X.A.units + 1 < cLine) (ha : PD X W a fa) (hb : PD X W b fb) (hm : behindInMarks .In b = false := by with_unfolding_all rfl) : PD X W (.Compare a [.In] [b] pos) (e2 dIn fa fb) := d_cmp (o_in hu) q_in ha hb hm
theorem d_ni (hu : X.A.units + 1 < cLine) (ha : PD X W a fa) (hb : PD X W b fb) (hm : behindInMarks .NotIn b = false := by with_unfolding_all rfl) : PD X W (.Compare a [.NotIn] [b] pos) (e2 dNi fa fb) := d_cmp (o_ni hu) q_ni ha hb hm
theorem t_in (hu : X.A.units + 1 < cLine) (ha : PD X W a fa) (hb : PD X W b fb) (hm : behindInMarks .In b = false := by with_unfolding_all rfl) : PDT X W (.Compare a [.In] [b] pos) (tB (e2 dIn fa fb)) := t_cmp (o_in hu) q_in ha hb hm
theorem t_ni (hu : X.A.units + 1 < cLine) (ha : PD X W a fa) (hb : PD X W b fb) (hm : behindInMarks .NotIn b = false := by with_unfolding_all rfl) : PDT X W (.Compare a [.NotIn] [b] pos) (tB (e2 dNi fa fb)) := t_cmp (o_ni hu) q_ni ha hb hm
/-! ### isinstance of an instance -/
def dIsO (m : Nat → Option Bool) : D → Option D
  | .obj c _ _ => (m c).map .bl
  | _ => none
/-- what isinstance asks of an instance's class -/
structure InsC (K : PySem.W.Frag) (C : Addr) : Prop where
  cl : Cls K C
  ha : PySem.W.findIn K (.ref C) "__class__" = some (some (.builtin "object.__class__"))
  hn : PySem.W.specialIn K (.builtin "object.__class__") "__get__" = some (some (.builtin "getset_descriptor.__get__"))
  ht : PySem.W.takesIn K (.builtin "object.__class__") = some true
  hm : PySem.W.mroIn K C (.type "object") = some true
theorem d_isO {m : Nat → Option Bool} {Cn : Str} {Cv : Addr} {p tp : Pos} {e : Expr} {f : EX} (hg : Gl X "isinstance") (hm : X.mg "isinstance" = none) (hgC : Gl X Cn) (hmC : X.mg Cn = some (.ref Cv)) (hI : ∀ c t, m c = some t → InsC X.K (W.cl c) ∧ PySem.W.kitOne X.K (.ref (W.cl c)) (.ref Cv) = some t) (ha : PD X W e f) (hd : (Cn == ("__debug__" : Str)) = false := by decide)
    (he : starEach [e, .Name Cn tp] X.env = (false, eval e X.env) :: starEach [.Name Cn tp] X.env := by rfl) (he2 : starEach [.Name Cn tp] X.env = (false, eval (.Name Cn tp) X.env) :: starEach [] X.env := by rfl) (hpl : (backTo pos (starEach [.Name Cn tp] X.env)).any (·.1) = false := by rfl) :
    PD X W (.Call (.Name "isinstance" p) [e, .Name Cn tp] [] pos) (e1 (dIsO m) f) :=
  imp_E (pe_callB call_isi hg hm rfl (pa_cons ha (pa_cons (pe_glob (v := .ref Cv) hgC hmC rfl hd) pa_nil he2) he) (by decide) (by decide) he hpl) fun σ H Q ⟨fr, F, ρ, n, r, n', R, ev, k⟩ => by
    rcases r with z | d
    · exact R.dE1 ev k
    obtain ⟨y, n1, h1, h2⟩ := M.bind_ok ev
    obtain ⟨h3, h4⟩ := M.opt_ok h2
    subst h4
    unfold dIsO at h3
    split at h3
    · rename_i c ks vs
      obtain ⟨t, h5, h6⟩ := Option.map_eq_some_iff.mp h3
      subst h6
      obtain ⟨I, kk⟩ := hI c t h5
      refine ⟨fr, F, ρ, n, .ok _, _, R, h1, fun F1 H1 v R1 s1 d1 => ?_⟩
      cases d1 with
      | obj l hF hd => exact ⟨_, .ref Cv, _, _, t, rfl, .own Cv, .base (.ins (R1.core.sub _ _ hF) I.cl I.ha I.hn I.ht I.hm), kk, k F1 H1 _ R1 s1 (.bl _)⟩
    · cases h3
end
end DL
end

section
set_option Elab.async false
set_option linter.all false
set_option autoImplicit false
set_option maxRecDepth 100000
set_option maxHeartbeats 1000000
namespace DL
open PySem PySem.Spec L2
section
variable {X : Cx} {W : Wd} {pos : Pos}
/-! ### {k: v for ..} -/
def dcompD (body : D → M (Option (Key × D))) : List D → List Key → List D → M (List Key × List D)
  | [], ks, vs => M.pure (ks, vs)
  | d :: ds, ks, vs => M.bind (body d) fun y => match y with
    | some p => if ks.length < sizeLine then dcompD body ds (dkKs ks p.1) (dkDs ks vs p.1 p.2) else M.opt none
    | none => dcompD body ds ks vs
def dcompB (vs : List Nat) (g : GX) (t : TX) (fk fv : EX) (ρ : Env) (d : D) : M (Option (Key × D)) := M.bind (M.opt (g d (hide (wipeD ρ vs)))) fun ρ1 => M.bind (t ρ1) fun b => match b with
  | true => M.bind (fk ρ1) fun y => M.bind (M.opt (keyD y)) fun k => M.bind (fv ρ1) fun z => M.pure (some (k, z))
  | false => M.pure none
def eDComp (vs : List Nat) (g : GX) (it : IX) (t : TX) (fk fv : EX) : EX := fun ρ => M.bind (it ρ) fun ds => M.bind (M.calm (dcompD (dcompB vs g t fk fv ρ) ds [] [])) fun r => M.pure (.dic r.1 r.2)
theorem d_tDc {vs : List Nat} {tg : TG} {g : GX} {is : List Nat} {it : IX} {t : TX} {fk fv : EX} (hg : GOk X.K W tg g is) (hv : ∀ i ∈ is, i ∈ vs) {σ : St} {H : Hp} {Q : VK} (h : tD X W (eDComp vs g it t fk fv) σ H Q) : tDc (tI X W it) tg (tTk X.K W t) (tDk X.K W fk) (tDk X.K W fv) vs σ H Q := by
  obtain ⟨fr, F, ρ, n, r, n', R, e, k⟩ := h
  rcases M.bind_any e with ⟨z, e1, rfl⟩ | ⟨ds, n1, e1, h⟩
  · exact ⟨fr, F, ρ, n, .error z, n', R, e1, k⟩
  rcases M.bind_any h with ⟨z, e1, rfl⟩ | ⟨⟨zk, zv⟩, n2, e2, h2⟩
  · exact (M.calm_err e1).elim
  replace e2 := M.calm_ok e2
  obtain ⟨q1, q2⟩ := M.pure_any h2
  subst q1 q2
  clear h h2
  refine ⟨fr, F, ρ, n, .ok ds, n1, R, e1, fun F1 H1 J R1 s1 ok => fun p hp => ?_⟩
  refine ⟨fun i m H' => m = ds.length - i ∧ i ≤ ds.length ∧ ∃ F' n'' ks us dv, Rel X.K W fr F' H' σ ρ n'' ∧ Sub F1 F' ∧ F' p = none ∧ ks.length = us.length ∧ H' p = some (.dK (ks.zip us)) ∧ Dens X.K W fr.dr F' us dv ∧ dcompD (dcompB vs g t fk fv ρ) (ds.drop i) ks dv n'' = some (.ok (zk, zv), _),
    ⟨ds.length, by simp, Nat.zero_le _, F1, n1, [], [], [], ?_, Sub.refl _, R1.core.noF hp, rfl, upd_same, .nil, e2⟩, ?_⟩
  · exact R1.other (R1.core.noF hp) (R1.core.noH0 hp) (R1.core.ndr hp) (R1.noOwn hp) (sd_no hp)
  have hH0 := R1.core.noH0 hp
  have hdr := R1.core.ndr hp
  have hno := R1.noOwn hp
  rintro i m H2 ⟨rfl, hi, F2, m2, ks, us, dv, R2, s2, f2, l2, a2, d2, c2⟩
  have RI : Rel X.K W (fr.at F2 H2) F2 H2 (wipe σ vs) (hide (wipeD ρ vs)) m2 := (R2.wipe vs).inner
  by_cases hlt : i < ds.length
  · refine .inr ?_
    rw [List.drop_eq_getElem_cons hlt] at c2
    obtain ⟨y, n3, c3, hc⟩ := M.bind_ok c2
    obtain ⟨ρ1, n5, b1, hb1⟩ := M.bind_ok c3
    obtain ⟨b2, b3⟩ := M.opt_ok b1
    obtain ⟨b, n6, b4, hb2⟩ := M.bind_ok hb1
    clear hb1 b1 c3
    subst b3
    obtain ⟨g1, g2⟩ := (ok (fr.at F2 H2) F2 H2 _ _ _ i rfl RI s2).1 ds[i] (by simp [hlt])
    refine ⟨g1, fun H' => ∃ F' n'' ks us dv, Rel X.K W fr F' H' σ ρ n'' ∧ Sub F1 F' ∧ F' p = none ∧ ks.length = us.length ∧ H' p = some (.dK (ks.zip us)) ∧ Dens X.K W fr.dr F' us dv ∧ dcompD (dcompB vs g t fk fv ρ) (ds.drop (i + 1)) ks dv n'' = some (.ok (zk, zv), _), fun H' q => ⟨_, by omega, rfl, hlt, q⟩, fun x H' yl => ?_⟩
    obtain ⟨F3, R3, s3, d3⟩ := g2 x H' yl
    refine hg (fr.at F2 H2) F3 H' _ _ ρ1 _ x _ _ R3 d3 b2 fun σ3 R4 w4 => ⟨(w4 vs hv).trans (wipe_wipe σ vs), ?_⟩
    refine ⟨fr.at F2 H2, F3, ρ1, _, b, n6, R4, b4, fun F5 H5 R5 s5 => ?_⟩
    cases b with
    | true =>
      rw [if_pos rfl]
      obtain ⟨yk, n7, b5, hb3⟩ := M.bind_ok hb2
      obtain ⟨kk, n8, b6, hb4⟩ := M.bind_ok hb3
      obtain ⟨b7, b8⟩ := M.opt_ok b6
      obtain ⟨z, n9, b9, hb5⟩ := M.bind_ok hb4
      obtain ⟨b10, b11⟩ := M.pure_ok hb5
      clear hb2 hb3 hb4 hb5 b6
      subst b8 b10 b11
      refine ⟨fr.at F2 H2, F5, ρ1, n6, yk, _, R5, b5, fun F6 H6 v R6 s6 d6 => ⟨fr.at F2 H2, F6, ρ1, _, z, _, R6, b9, fun F7 H7 u R7 s7 d7 => ?_⟩⟩
      have hc : (if ks.length < sizeLine then dcompD (dcompB vs g t fk fv ρ) (ds.drop (i + 1)) (dkKs ks kk) (dkDs ks dv kk z) else M.opt none) n3 = _ := hc
      split at hc
      · rename_i hz
        have a7 : H7 p = some (.dK (ks.zip us)) := R7.core.base p _ (mask_of a2) hdr fun z => z
        have f7 : F7 p = none := R7.core.new p _ (mask_of a2) f2
        have s27 : Sub F2 F7 := R7.core.f0
        have hk := key_of d6 b7
        subst hk
        refine ⟨_, kk, rfl, a7, by rw [List.length_zip, l2, Nat.min_self, ← l2]; exact hz, F7, _, dkKs ks kk, dkDs ks us kk u, dkDs ks dv kk z, ?_, s2.trans s27, f7, put_len l2, ?_, dkDs_dens d7 (d2.mono s27 fun _ z => z), hc⟩
        · exact (R2.back R7.core).other f7 hH0 hdr hno (sd_of a7)
        · rw [upd_same, put_zip l2]
      · cases (M.opt_ok hc).1
    | false =>
      rw [if_neg Bool.false_ne_true]
      obtain ⟨b6, b7⟩ := M.pure_ok hb2
      clear hb2
      subst b6 b7
      have a6 : H5 p = some (.dK (ks.zip us)) := R5.core.base p _ (mask_of a2) hdr fun z => z
      have f6 : F5 p = none := R5.core.new p _ (mask_of a2) f2
      have s26 : Sub F2 F5 := R5.core.f0
      exact ⟨F5, _, ks, us, dv, R2.back R5.core, s2.trans s26, f6, l2, a6, d2.mono s26 fun _ z => z, hc⟩
  · have ei : i = ds.length := by omega
    refine .inl ⟨(ok (fr.at F2 H2) F2 H2 _ _ _ i rfl RI s2).2 ei, ?_⟩
    rw [ei, List.drop_length] at c2
    obtain ⟨a1, a3⟩ := M.pure_ok c2
    cases a1
    subst a3
    obtain ⟨u1, R7⟩ := R2.addF a2 f2 hH0 hdr hno
    exact k _ H2 _ R7 ((s1.trans s2).trans u1) (.dic l2 (.inl upd_same) (d2.mono u1 fun _ z => z))
theorem d_dcomp {vs : List Nat} {kx vx tg iter : Expr} {ifs : List Expr} {scope : Scope} {own : List (Str × Nat)} {t : TG} {g : GX} {is : List Nat} {it : IX} {tt : TX} {fk fv : EX} (hc : X.calm = true) (hN : X.N.Nodup) (hi : PDI X W tg iter it) (ok : BlkOk X.N X.env.scope scope own)
    (hg : ∀ (s : Shared) (H : Hp) (C : Addr) (cl : List (Str × Addr)) (fp : List Addr), PG (X.blk s H scope (compEnvC scope cl C X.env) fp) tg t) (hq : GOk X.K W t g is) (hv : ∀ i ∈ is, i ∈ vs)
    (ht : ∀ (s : Shared) (H : Hp) (C : Addr) (cl : List (Str × Addr)) (fp : List Addr), PTs (X.blk s H scope (compEnvC scope cl C X.env) fp) ifs (tT (X.blk s H scope (compEnvC scope cl C X.env) fp) W tt))
    (hk : ∀ (s : Shared) (H : Hp) (C : Addr) (cl : List (Str × Addr)) (fp : List Addr), PD (X.blk s H scope (compEnvC scope cl C X.env) fp) W kx fk)
    (he : ∀ (s : Shared) (H : Hp) (C : Addr) (cl : List (Str × Addr)) (fp : List Addr), PD (X.blk s H scope (compEnvC scope cl C X.env) fp) W vx fv) (hs : ∀ x, foldedSetIterable iter X.env x = pure x := by intro _; rfl) (hvs : own.map (·.2) = vs := by rfl) :
    PD X W (.DictComp kx vx [⟨tg, iter, ifs, 0⟩] scope pos) (eDComp vs g it tt fk fv) := by
  subst hvs
  exact imp_E (pe_dc (tt := tTk X.K W tt) (tk := tDk X.K W fk) (tv := tDk X.K W fv) hc hN hi ok hg (fun s H C cl fp => tsk (ht s H C cl fp)) (fun s H C cl fp => dk (hk s H C cl fp)) (fun s H C cl fp => dk (he s H C cl fp)) hs) fun _ _ _ h => d_tDc hq hv h
/-! ### self.a, self.b, .. = e -/
def gAttr (K : PySem.W.Frag) (i : Nat) (C : Addr) (f : Str) : TG := fun v σ H Q => ∃ a dx fs, σ[i]? = some (some (.ref a)) ∧ H a = some (.ins C dx fs) ∧ fs.length < 1000 ∧ Q σ (upd H a (.ins C dx (putF f v fs)))
theorem pg_attr {i : Nat} {C : Addr} {o : Expr} {f : Str} {tpos : Pos} (cl : Cls X.K C) (na : NoAttr X.K C f) (ho : PE X o (tVar i)) : PG X (.Attribute o f tpos) (gAttr X.K i C f) := by
  constructor
  rintro pins s σ H v u Q I r ⟨a, dx, fs, h1, h2, h3, q⟩
  rw [arm_assign_Attribute]
  refine wpAny_bind (wpAny_holding (thn (ho.run pins s σ H (fun x H' => x = .ref a ∧ H' = H) I ⟨_, h1, rfl, rfl⟩) ?_))
  rintro ov s1 ⟨x, H1, I1, rx, rfl, rfl⟩
  have eo : ov = Value.ref a := rx
  subst eo
  refine wpAny_bind (wpAny_standAt (wpAny_bind (wpAny_holding (setattr_ok I1 h2 cl na h3 r fun s3 I3 => ?_))))
  exact wpAny_release ⟨σ, _, I3, q⟩
def uFlds (c : Nat) : List Str → List D → D → Option D
  | [], [], o => some o
  | f :: fs, d :: ds, o => (uFld c f d o).bind (uFlds c fs ds)
  | _, _, _ => none
def gAttrs (K : PySem.W.Frag) (i : Nat) (C : Addr) : List Str → TGs
  | [] => gNil
  | f :: fs => gCons (gAttr K i C f) (gAttrs K i C fs)
theorem attrs_ok {i c : Nat} {fr : Fr} {F : Hp} {σ : St} {n : Int} {Q : St → Hp → Prop} : ∀ {fs : List Str} {ds : List D} {vs : List V} {o o' : D} {ρ : Env} {H : Hp}, Rel X.K W fr F H σ ρ n → ρ[i]? = some (.own o) → Dens X.K W fr.dr F vs ds → uFlds c fs ds o = some o' →
    (∀ H', Rel X.K W fr F H' σ (ρ.set i (.own o')) n → Q σ H') → gAttrs X.K i (W.cl c) fs vs σ H Q
  | [], [], _, o, o', ρ, H, R, hi, .nil, e, k => by
    unfold uFlds at e
    cases e
    refine ⟨rfl, k H ?_⟩
    have : ρ.set i (.own o) = ρ := by
      apply List.ext_getElem?
      intro j
      by_cases hj : i = j
      · subst hj
        rw [get_set_self (List.getElem?_eq_some_iff.mp hi).1, hi]
      · rw [List.getElem?_set_ne hj]
    rw [this]; exact R
  | [], _ :: _, _, _, _, _, _, _, _, _, e, _ => by cases e
  | _ :: _, [], _, _, _, _, _, _, _, _, e, _ => by cases e
  | f :: fs, d :: ds, _, o, o', ρ, H, R, hi, .cons h1 h2, e, k => by
    unfold uFlds at e
    obtain ⟨o1, e1, e2⟩ := Option.bind_eq_some_iff.mp e
    unfold uFld at e1
    split at e1
    · split at e1
      · rename_i c' ks us q
        obtain ⟨q1, q2, q3⟩ := q
        subst q1
        cases e1
        obtain ⟨ad, s⟩ := R.slots
        obtain ⟨a1, a2, a3, a4, ⟨dx, ws, l, a5, a6⟩, a7⟩ := s.own i _ hi
        have m' : MDen X.K W fr.dr F (upd H (ad i) (.ins (W.cl c') dx (putF f _ (ks.zip ws)))) (ad i) (.obj c' (putKs f ks) (putVs f d ks us)) :=
          ⟨dx, _, putKs_length f _ l, by rw [upd_same, putF_zip f _ l], a6.putVs f h1 l⟩
        refine ⟨_, _, rfl, ad i, dx, _, a1, a5, by rw [List.length_zip, l, Nat.min_self, ← l]; exact q2, ?_⟩
        refine attrs_ok (R.change s hi m' rfl) (by rw [get_set_self (List.getElem?_eq_some_iff.mp hi).1]) h2 e2 fun H' R' => k H' ?_
        rw [List.set_set] at R'
        exact R'
      · cases e1
    · cases e1
def sFlds (i c : Nat) (fs : List Str) (fx : EX) : SX := fun ρ => M.bind (fx ρ) fun d => match d with
  | .tup ds => M.bind (M.opt ((own? ρ i).bind (uFlds c fs ds))) fun o => M.pure (.nx (ρ.set i (.own o)))
  | _ => M.opt none
theorem uFlds_len {c : Nat} : ∀ {fs : List Str} {ds : List D} {o o' : D}, uFlds c fs ds o = some o' → ds.length = fs.length
  | [], [], _, _, _ => rfl
  | [], _ :: _, _, _, e => by cases e
  | _ :: _, [], _, _, e => by cases e
  | f :: fs, d :: ds, o, o', e => by
    unfold uFlds at e
    obtain ⟨o1, e1, e2⟩ := Option.bind_eq_some_iff.mp e
    simp [uFlds_len e2]
theorem S_flds {i c m : Nat} {fs : List Str} {fx : EX} {tg value : Expr} {pos : Pos} (hv : PD X W value fx) (hg : PG X tg (gTup X.K m (gAttrs X.K i (W.cl c) fs))) (hm : fs.length = m) (hs : swapsWithSole [tg] value pos.line X.env = pure false := by rfl) (hw : swappedStores [tg] value X.env = pure none := by rfl)
    (h1 : (assignEach [tg] X.env).map (·.2) = [assign tg X.env] := by rfl) : PDS X W (.Assign [tg] value pos) (sFlds i c fs fx) := imp_S (ps_asg hv hg hs hw h1) fun E σ H ⟨fr, F, ρ, n, r, n', R, e, k⟩ => by
  rcases M.bind_any e with ⟨z, e1, rfl⟩ | ⟨d, n1, e1, h⟩
  · exact ⟨fr, F, ρ, n, .error z, n', R, e1, KS.x k⟩
  refine ⟨fr, F, ρ, n, .ok d, n1, R, e1, fun F1 H1 v R1 s1 d1 => ?_⟩
  split at h
  · rcases M.bind_any h with ⟨z, e1, rfl⟩ | ⟨o, n2, e2, h2⟩
    · exact (M.opt_err e1).elim
    obtain ⟨e3, e4⟩ := M.opt_ok e2
    subst e4
    obtain ⟨q1, q2⟩ := M.pure_any h2
    subst q1 q2
    obtain ⟨o0, q0, q1⟩ := Option.bind_eq_some_iff.mp e3
    cases d1 with
    | tup a1 a2 =>
      refine ⟨_, _, rfl, R1.core.sub.sqT a1, by rw [a2.length, uFlds_len q1]; exact hm, ?_⟩
      exact attrs_ok R1 (own_some q0) a2 q1 fun H' R' => k F1 H' σ R' s1
  · obtain ⟨_, q⟩ := M.opt_any h
    cases q
/-! ### a new list for oneself -/
def tDN (X : Cx) (W : Wd) (f : EXs) : TE := fun σ H Q => ∃ fr F ρ n r n', Rel X.K W fr F H σ ρ n ∧ f ρ n = some (r, n') ∧
  Res (fun ds => ∀ F' H' vs, Rel X.K W fr F' H' σ ρ n' → Sub F F' → Dens X.K W fr.dr F' vs ds → ∀ p, H' p = none → Q (.ref p) (upd H' p (.lst vs))) (KX X W fr F σ ρ n') r
/-- a[lo:hi] of a list -/
def nCut (f : EX) (lo hi : EO) : EXs := fun ρ => M.bind (f ρ) fun x => M.bind (lo ρ) fun l => M.bind (hi ρ) fun h => M.opt (match x with | .lst xs => some (cutD xs l h) | _ => none)
theorem n_cut {a : Expr} {lo hi : Option Expr} {f : EX} {l h : EO} {p2 : Pos} (ha : PD X W a f) (hl : PO X lo (tOD X W l)) (hh : PO X hi (tOD X W h)) : PE X (.Subscript a (.Slice lo hi none p2) pos) (tDN X W (nCut f l h)) := imp_E (pe_slice sl_list ha hl hh) fun σ H Q ⟨fr, F, ρ, n, r, n', R, e, k⟩ => by
  rcases M.bind_any e with ⟨z, e1, rfl⟩ | ⟨x, n1, e1, h⟩
  · exact ⟨fr, F, ρ, n, .error z, n', R, e1, k⟩
  refine ⟨fr, F, ρ, n, .ok x, n1, R, e1, fun F1 H1 v R1 s1 d1 => ?_⟩
  rcases M.bind_any h with ⟨z, e2, rfl⟩ | ⟨l', n2, e2, h⟩
  · exact ⟨fr, F1, ρ, n1, .error z, n', R1, e2, KX.mono k s1⟩
  refine ⟨fr, F1, ρ, n1, .ok l', n2, R1, e2, fun F2 H2 R2 s2 => ?_⟩
  rcases M.bind_any h with ⟨z, e3, rfl⟩ | ⟨u', n3, e3, h⟩
  · exact ⟨fr, F2, ρ, n2, .error z, n', R2, e3, KX.mono (KX.mono k s1) s2⟩
  refine ⟨fr, F2, ρ, n2, .ok u', n3, R2, e3, fun F3 H3 R3 s3 => ?_⟩
  rcases r with z | ds
  · exact (M.opt_err h).elim
  obtain ⟨e4, e5⟩ := M.opt_ok h
  subst e5
  have d3 := d1.mono (dr' := fr.dr) (s2.trans s3) fun _ z => z
  split at e4
  · cases e4
    cases d3 with
    | lst h1 h2 => exact ⟨_, _, rfl, SqL.of (R3.core.sub _ _ h1), fun p hp => k F3 H3 _ R3 ((s1.trans s2).trans s3) (h2.cut _ _) p hp⟩
  · cases e4
/-- [a, b, ..] -/
def nLst (f : EXs) : EXs := fun ρ => M.bind (f ρ) fun ds => M.opt (if gz ds then some ds else none)
theorem n_lst {es : List Expr} {f : EXs} (h : PDs X W es f) : PE X (.List es pos) (tDN X W (nLst f)) := imp_E (pe_lst h) fun σ H Q ⟨fr, F, ρ, n, r, n', R, e, k⟩ => by
  rcases M.bind_any e with ⟨z, e1, rfl⟩ | ⟨ds, n1, e1, h⟩
  · exact ⟨fr, F, ρ, n, .error z, n', R, e1, k⟩
  rcases r with z | d
  · exact (M.opt_err h).elim
  obtain ⟨h2, h3⟩ := M.opt_ok h
  subst h3
  split at h2
  · rename_i q
    cases h2
    exact ⟨fr, F, ρ, n, .ok ds, _, R, e1, fun F1 H1 vs R1 s1 d1 => ⟨by rw [d1.length]; exact of_decide_eq_true q, fun p hp => k F1 H1 vs R1 s1 d1 p hp⟩⟩
  · cases h2
def sOwnN (i : Nat) (f : EXs) : SX := fun ρ => M.bind (f ρ) fun ds => M.pure (.nx (ρ.set i (.own (.lst ds))))
theorem S_ownN {i : Nat} {y : Str} {px pos : Pos} {e : Expr} {f : EXs} (hN : X.N.Nodup) (hi : X.N[i]? = some y) (hx : Loc X.env.scope y) (he : PE X e (tDN X W f)) (hs : swapsWith e (some (.Name y px)) pos.line X.env = pure false := by rfl) (hf : X.fn y = true ∨ X.env.scope.names.lookup y = some .local := by first | exact .inl rfl | exact .inr rfl | assumption) :
    PDS X W (.Assign [.Name y px] e pos) (sOwnN i f) := imp_S (ps_set hN hi hx he hs hf) fun E σ H ⟨fr, F, ρ, n, r, n', R, e, k⟩ => by
  rcases M.bind_any e with ⟨z, e1, rfl⟩ | ⟨ds, n1, e1, h⟩
  · exact ⟨fr, F, ρ, n, .error z, n', R, e1, KS.x k⟩
  obtain ⟨q1, q2⟩ := M.pure_any h
  subst q1 q2
  exact ⟨fr, F, ρ, n, .ok ds, _, R, e1, fun F1 H1 vs R1 s1 d1 p hp => k F1 _ _ (R1.setOwn hp rfl ⟨vs, upd_same, d1⟩) s1⟩
end
end DL
end

section
set_option Elab.async false
set_option linter.all false
set_option autoImplicit false
set_option maxRecDepth 100000
set_option maxHeartbeats 1000000
namespace DL
open PySem PySem.Spec L2
/-! ### bool(x) -/
theorem bool_truthy {prog : Program} {w : World} (x : Value) : PySem.MeetsIn prog w (Builtin.«bool.__new__» ⟨[.type "bool", x], []⟩) (fun A R s => ∀ k, wpAny (model prog w) A.in1 (truthy x) (fun b s' => ∀ j, R (.ok (.ret (.bool b))) { s' with toks := s'.toks + j }) (fun e s' => R (.error e) s') { s with toks := s.toks + k }) :=
  .of_wp fun A R s h => by
    obtain ⟨hp, g, d, tk, os⟩ := s
    have f1 := F.conv_sub_bool
    have h0 : wpAny (model prog w) A.in1 (truthy x) (fun b s' => ∀ j, R (.ok (.ret (.bool b))) { s' with toks := s'.toks + j }) (fun e s' => R (.error e) s') ⟨hp, g, d, tk, os⟩ := h 0
    repeat (first | (with_reducible refine wpAny_bind (wpAny_mono h0 ?_ fun _ _ e => e)) | wp_step)
    rintro b s' q
    exact wpAny_pure ⟨_, rfl, q 0⟩
theorem call_bool_by {prog : Program} {w : World} {A : Around} {E : Value → Shared → Prop} {s : Shared} {x : Value} {Q : Value → Shared → Prop} (h : ∀ k, wpAny (model prog w) A.in1.in1 (truthy x) (fun b s' => ∀ j, Q (.bool b) { s' with toks := s'.toks + j }) E { s with toks := s.toks + k }) :
    wpAny (model prog w) A (call (.type "bool") [x]) Q E s :=
  callType_newIn F.called_bool F.newNe_bool (F.typeCall_bool_1 x) (F.newCall_bool_1 x) (fun obj => F.args_object_init_2 obj x) F.entry_bool_new (bool_truthy x) fun k => wpAny_mono (h k) (fun b s' q j => ⟨rfl, q j⟩) fun _ _ e => e
def dBoolT : List D → Option D
  | [.tup xs] => some (.bl (!xs.isEmpty))
  | [.lst xs] => some (.bl (!xs.isEmpty))
  | [.bl b] => some (.bl b)
  | _ => none
section
variable {X : Cx} {W : Wd} {pos : Pos}
def rBoolT (K : PySem.W.Frag) : List V → Hp → VK → Prop := fun xs H Q => (∃ p ys, xs = [.ref p] ∧ (SqL K H p ys ∨ SqT K H p ys) ∧ Q (.bl (!ys.isEmpty)) H) ∨ ∃ b, xs = [.bl b] ∧ Q (.bl b) H
theorem call_boolT : CallR X (.type "bool") (rBoolT X.K) := by
  intro pins s σ H xs us Q I r h
  have hl := line63
  have hs : sizeLine = 16777216 := sizeLine_eq
  rcases h with ⟨p, ys, rfl, hq, q⟩ | ⟨b, rfl, q⟩
  · obtain rfl := Vals.ref1 r
    rcases hq with hq | hq
    · refine call_bool_by fun k => ?_
      have I1 := I.tok (s.toks + k)
      obtain ⟨its, rv, pl, hz⟩ := I1.list hq
      have hlen := rv.length
      exact wpAny_truthy_list pl.isList (by simp only [List.size_toArray]; omega) fun j => ⟨.bl (!ys.isEmpty), H, I1.tok _, by rw [isEmpty_of rv]; rfl, q⟩
    · refine call_bool_by fun k => ?_
      have I1 := I.tok (s.toks + k)
      obtain ⟨its, rv, pl, hz⟩ := I1.tuple hq
      have hlen := rv.length
      exact PyProof.Rows.truthy_tuple pl (by simp only [List.size_toArray]; omega) fun j => ⟨.bl (!ys.isEmpty), H, I1.tok _, by rw [isEmpty_of rv]; rfl, q⟩
  · cases r with
    | cons r1 r2 =>
      cases r2
      cases r1
      exact call_bool_by fun k => wpAny_truthy_bool fun j => ⟨.bl b, H, I.tok _, rfl, q⟩
theorem q_boolT {K : PySem.W.Frag} : CallD K W (rBoolT K) dBoolT := by
  intro fr F H σ ρ n xs d vs Q R dx h k
  unfold dBoolT at h
  have em : ∀ {vs : List V} {ds : List D}, Dens K W fr.dr F vs ds → vs.isEmpty = ds.isEmpty := fun h => by cases h <;> rfl
  split at h
  · cases h
    cases dx with
    | cons h1 h2 =>
      cases h2
      cases h1 with
      | tup h3 h4 => exact .inl ⟨_, _, rfl, .inr (R.core.sub.sqT h3), by rw [em h4]; exact k F H _ R (Sub.refl _) (.bl _)⟩
  · cases h
    cases dx with
    | cons h1 h2 =>
      cases h2
      cases h1 with
      | lst h3 h4 => exact .inl ⟨_, _, rfl, .inl (SqL.of (R.core.sub _ _ h3)), by rw [em h4]; exact k F H _ R (Sub.refl _) (.bl _)⟩
  · cases h
    cases dx with
    | cons h1 h2 =>
      cases h2
      cases h1
      exact .inr ⟨_, rfl, k F H _ R (Sub.refl _) (.bl _)⟩
  · cases h
/-- bool(x), x an instance with an own __bool__ -/
theorem run_in2 {k : Nat} {f : Addr} {fd : FuncData} {ps : List Str} {sp : Sp} {pins : List (Addr × Obj)} {σ : St} {H : Hp} {s : Shared} {Q : VK} {us : List Value} {vs : List V} {E' : Value → Shared → Prop} (F : FnOk X.prog X.w X.K X.mg X.base (L2.CX X.prog X.w) k f fd ps sp) (hr : Room (k + 2) X.A) (hb : Binds X.K fd ps [])
    (I : Inv X pins σ H s) (r : Vals vs us) (h : sp vs H Q E0) : wpAny (model X.prog X.w) X.A.in1.in1 (call (.ref f) us) (EP X pins σ Q) E' s := by
  have hl : (us ++ []).length = ps.length := by rw [List.append_nil, ← r.length]; exact F.len _ _ _ _ h
  have b := hb s us I.kIn hl
  rw [List.append_nil] at b
  refine wpAny_call (codeAny_mono (F.run X.A.in1.in1 X.stack s H ⟨us, []⟩ us vs Q E0 hr.in1.in1 I.env0.in1.in1 b r h) ?_)
  rintro (e | fl) s' hq
  · obtain ⟨_, _, _, _, _, _, _, _, _, _, _, _, z⟩ := hq
    exact z.elim
  · cases fl with
    | ret u => exact I.after hq
    | next => exact hq.elim
    | brk => exact hq.elim
    | cont => exact hq.elim
def eBoolO (t : TX) : EX := fun ρ => M.bind (t ρ) fun b => M.pure (.bl b)
theorem d_boolO {c k : Nat} {fx : FX} {e : Expr} {f : EX} {p : Pos} (F : CalM X.prog X.w X.K X.mg X.base (W.cl c) "__bool__" k (spD X.K W fx 1)) (hr : Room (k + 2) X.A) (hg : Gl X "bool") (hm : X.mg "bool" = none) (ha : PD X W e f)
    (he : starEach [e] X.env = (false, eval e X.env) :: starEach [] X.env := by rfl) (hpl : (backTo pos (starEach [] X.env)).any (·.1) = false := by rfl) : PD X W (.Call (.Name "bool" p) [e] [] pos) (eBoolO (tOwn c fx f)) := by
  obtain ⟨fa, fd, ps, F, hmm, hbd⟩ := F
  constructor
  intro pins s σ H Q I ⟨fr, G, ρ, n, r, n', R, ev, kk⟩
  have h : tT X W (tOwn c fx f) σ H fun b H' => Q (.bl b) H' := by
    rcases M.bind_any ev with ⟨z, e1, rfl⟩ | ⟨b, n1, e1, h⟩
    · exact ⟨fr, G, ρ, n, .error z, n', R, e1, kk⟩
    · obtain ⟨h1, h2⟩ := M.pure_any h
      subst h1 h2
      exact ⟨fr, G, ρ, n, .ok b, _, R, e1, fun F1 H1 R1 s1 => kk F1 H1 _ R1 s1 (.bl _)⟩
  have h' := tOwn_of h
  have hc : CallR X (.type "bool") (fun xs H Q => ∃ x, xs = [x] ∧ (∃ p dx fs, x = .ref p ∧ H p = some (.ins (W.cl c) dx fs)) ∧ spD X.K W fx 1 [x] H (fun w H' => ∃ t, w = .bl t ∧ Q (.bl t) H') E0) := by
    rintro pins s σ H xs us Q I r ⟨x, rfl, ⟨q, dx, fs, rfl, hq⟩, sp⟩
    obtain rfl := Vals.ref1 r
    refine call_bool_by fun j => ?_
    have I1 := I.tok (s.toks + j)
    obtain ⟨mA, J, _⟩ := ins_get I1.hok hq
    obtain ⟨od, J, _⟩ := J.look
    obtain ⟨mm, hF⟩ := I1.fr
    refine PySem.W.truthy_K hF I1.ok.mod.kin J hmm.at_ hmm.fn (thn (run_in2 (us := [.ref q]) (vs := [.ref q]) F hr hbd I1 (.cons rfl .nil) sp) ?_)
    rintro w s3 ⟨z, H3, I3, rz, t, rfl, qz⟩ 
    have ew : w = Value.bool t := rz
    subst ew
    exact fun i => ⟨.bl t, H3, I3.tok _, rfl, qz⟩
  refine (pe_callTy hc hg hm rfl (pa_cons ha pa_nil he) (by decide) (by decide) he hpl).run pins s σ H Q I ?_
  obtain ⟨fr, G, ρ, n, r, n', R, ev, kk⟩ := h'
  refine ⟨fr, G, ρ, n, r, n', R, ev, ?_⟩
  cases r with
  | error z => exact kk
  | ok d => exact fun F1 H1 v R1 s1 d1 => ⟨_, rfl, kk F1 H1 v R1 s1 d1⟩
/-! ### try: g except C as n: return isinstance(n, C2) -/
def tsIs (K : PySem.W.Frag) (i : Nat) (C2 : Addr) (a : Addr) (cls : Value) (d : Option Addr) : TS := fun D σ H => ∃ Dc b, cls = .ref Dc ∧ d = none ∧ ExcC K Dc ∧ σ[i]? = some (some (.ref a)) ∧ PySem.W.kitOne K (.ref Dc) (.ref C2) = some b ∧ D.rt (.bl b) H
def sTryIs (i : Nat) (m q : Nat → Option Bool) (g : SX) : SX := fun ρ n => match g ρ n with
  | some (.error z, n1) => (match m z.c with
    | some true => (match q z.c, z.ks with
      | some t, [] => if i < ρ.length then some (.ok (.ret (.bl t)), n1) else none
      | _, _ => none)
    | some false => some (.error z, n1)
    | none => none)
  | r => r
theorem S_tryIs {i : Nat} {x n2 C2n : Str} {c : Value} {C2 : Addr} {body : List Stmt} {np pos pos' p0 p1 p2 p3 p4 : Pos} {m q : Nat → Option Bool} {g : SX} (hs : X.stack = X.env :: X.outer) (hf : X.env.frame = some X.env.locals) (hN : X.N.Nodup) (hi : X.N[i]? = some n2) (hln : X.env.kindOf n2 = some .local) (hc : Names X x c)
    (hm : ∀ i b, m i = some b → PySem.W.exmOne X.K (.ref (W.cl i)) c = some b) (hq : ∀ i b, q i = some b → ExcC X.K (W.cl i) ∧ PySem.W.kitOne X.K (.ref (W.cl i)) (.ref C2) = some b)
    (hg : Gl X "isinstance") (hmi : X.mg "isinstance" = none) (hgC : Gl X C2n) (hmC : X.mg C2n = some (.ref C2))
    (hb : ∀ (pn : List (Addr × Obj)) (xe : Value → Shared → Prop), PassesOwn (model X.prog X.w) X.A X.env xe → PSs (X.tr pn xe) body (tSx (X.tr pn xe) W g)) (hd : (C2n == ("__debug__" : Str)) = false := by decide) (hd1 : (n2 == ("__debug__" : Str)) = false := by decide) (hd2 : (n2 == ("__classdict__" : Str)) = false := by decide)
    (he : starEach [.Name n2 p1, .Name C2n p2] X.env = (false, eval (.Name n2 p1) X.env) :: starEach [.Name C2n p2] X.env := by rfl) (he2 : starEach [.Name C2n p2] X.env = (false, eval (.Name C2n p2) X.env) :: starEach [] X.env := by rfl) (hpl : (backTo p3 (starEach [.Name C2n p2] X.env)).any (·.1) = false := by rfl) :
    PDS X W (.Try body [.ExceptHandler (some (.Name x np)) (some n2) [.Return (some (.Call (.Name "isinstance" p0) [.Name n2 p1, .Name C2n p2] [] p3)) p4] pos'] [] [] pos) (sTryIs i m q g) := by
  have hv : Vis X.env.scope n2 := .inl hln
  refine imp_S (ps_try_as (Wout := Acc X) (tb := fun Wx => tSW X.K W Wx g) (ts := tsIs X.K i C2) hs hf hN hi hln hc takesAcc (fun Wx pn xe tk po => sw_of tk (hb pn xe po)) fun a oe cls d pn hz hfd => ?_) ?_
  · constructor
    rintro pins s σ H D I ⟨Dc, b, rfl, rfl, C, h1, h2, h3⟩
    refine (pss_one (ps_ret (pe_callB (call_isE C hz hfd) hg hmi rfl (pa_cons (pe_var hi hv hd1 hd2) (pa_cons (pe_glob (v := .ref C2) hgC hmC rfl hd) pa_nil he2) he) (by decide) (by decide) he hpl))).run pins s σ H D I ?_
    exact ⟨_, h1, .ref C2, .ref C2, b, rfl, fun u r => r, h2, h3⟩
  · rintro E σ H ⟨fr, F, ρ, n, r, n', R, e, k⟩
    unfold sTryIs at e
    split at e
    · rename_i z n1 eg
      refine ⟨fr, F, ρ, n, .error z, n1, R, eg, fun F1 H1 cls d R1 s1 xx => ?_⟩
      have ec : cls = .ref (W.cl z.c) := xx.1
      split at e
      · rename_i hz
        refine ⟨true, by rw [ec]; exact hm _ _ hz, fun _ a ha => ?_, fun q => nomatch q⟩
        split at e
        · rename_i t hk1 hk2
          split at e
          case isFalse => cases e
          rename_i hlt
          cases e
          obtain ⟨I1, I2⟩ := hq _ _ hk1
          refine ⟨_, t, ec, ?_, I1, ?_, I2, k F1 H1 _ R1.core s1 (.bl _)⟩
          · rcases xx.2 with z1 | ⟨_, _, _, z1, _⟩
            · exact z1.1
            · exact absurd hk2 z1
          · obtain ⟨ad, sl⟩ := R1.slots
            rw [get_set_self (by rw [sl.len]; exact hlt)]
        · cases e
      · rename_i hz
        cases e
        exact ⟨false, by rw [ec]; exact hm _ _ hz, (fun q => nomatch q), fun _ => k F1 H1 σ cls d R1.core s1 xx⟩
      · cases e
    · rename_i hne
      rcases r with z | o
      · exact absurd e (hne z n')
      · exact ⟨fr, F, ρ, n, .ok o, n', R, e, k⟩
end
end DL
end

section
set_option Elab.async false
set_option linter.all false
set_option autoImplicit false
set_option maxRecDepth 100000
set_option maxHeartbeats 1000000
namespace DL
open PySem PySem.Spec L2
theorem u1 {X : Cx} (h : X.A.units + 64 < cLine) : X.A.units + 1 < cLine := by omega
theorem u0 {X : Cx} (h : X.A.units + 64 < cLine) : X.A.units < cLine := by omega
def CalP (P : Program) (w : World) (K : PySem.W.Frag) (mg : Str → Option Value) (base : Heap) (C : Addr) (m : Str) (k : Nat) (sp : Sp) : Prop :=
  ∃ p g fd ps, FnOk P w K mg base (L2.CX P w) k g fd ps sp ∧ PropOf K C m p g ∧ Binds K fd ps []
section
variable {X : Cx} {W : Wd} {c k : Nat} {pos : Pos} {a b : Expr} {fa fb : EX} {fx : FX}
theorem c_own2 {op : Operator} {m : Str} (F : CalM X.prog X.w X.K X.mg X.base (W.cl c) m k (spD X.K W fx 2)) (hm : PySem.dunder op.info.2 = m) (hr : Room k X.A) (hc : PySem.W.selfFirst X.K (W.cl c) = true) (ha : PD X W a fa) (hb : PD X W b fb) :
    PD X W (.BinOp a op b pos) (eOwn2 c fx fa fb) := by
  subst hm
  exact d_own2 F hr hc ha hb
theorem c_prop {f : Str} (F : CalP X.prog X.w X.K X.mg X.base (W.cl c) f k (spD X.K W fx 1)) (hr : Room (k + 1) X.A) (cl : Cls X.K (W.cl c)) (ha : PD X W a fa)
    (hab : attributeBase a f X.env (eval a X.env) = eval a X.env := by rfl) : PD X W (.Attribute a f pos) (e1M (mOwn1 c fx) fa) := by
  obtain ⟨p, g, fd, ps, h1, h2, h3⟩ := F
  exact d_prop cl h2 h1 hr h3 ha hab
/-- len of a list of one's own -/
def eOwnLen (i : Nat) : EX := fun ρ => M.opt (match own? ρ i with | some (.lst ds) => some (.int ds.length) | _ => none)
theorem d_ownLen {i : Nat} {o : Expr} {p : Pos} (hg : Gl X "len") (hm : X.mg "len" = none) (ho : PE X o (tVar i)) (he : starEach [o] X.env = (false, eval o X.env) :: starEach [] X.env := by rfl) (hpl : (backTo pos (starEach [] X.env)).any (·.1) = false := by rfl) : PD X W (.Call (.Name "len" p) [o] [] pos) (eOwnLen i) :=
  imp_E (pe_callB call_len hg hm rfl (pa_cons ho pa_nil he) (by decide) (by decide) he hpl) fun σ H Q ⟨fr, F, ρ, n, r, n', R, e, k⟩ => by
    rcases r with z | d
    · exact (M.opt_err e).elim
    obtain ⟨h1, h2⟩ := M.opt_ok e
    subst h2
    split at h1
    · cases h1
      obtain ⟨ad, s⟩ := R.slots
      obtain ⟨a1, a2, a3, a4, ⟨us, a5, a6⟩, a7⟩ := s.own i _ (own_some ‹_›)
      refine ⟨_, a1, _, _, rfl, .inl ⟨_, SqL.of a5, rfl⟩, ?_⟩
      rw [a6.length]
      exact k F H _ R (Sub.refl _) (.int _)
    · cases h1
end
end DL
end

section
set_option Elab.async false
set_option linter.all false
set_option autoImplicit false
set_option maxRecDepth 100000
set_option maxHeartbeats 1000000
namespace DL
open PySem PySem.Spec L2 PyProof.Rows
section
variable {X : Cx} {W : Wd}
/-- y = {k: v for ..}, one line -/
theorem ps_setDcD {i : Nat} {y : Str} {py : Pos} {kx vx tg iter : Expr} {ifs : List Expr} {scope : Scope} {own : List (Str × Nat)} {pos spos : Pos} {wi : TI} {g : TG} {tt : TT} {tk tv : TE}
    (hc : X.calm = true) (hN : X.N.Nodup) (hy : X.N[i]? = some y) (hyl : X.env.scope.names.lookup y = some .local)
    (hsw : swapsWith (.DictComp kx vx [⟨tg, iter, ifs, 0⟩] scope pos) (some (.Name y py)) spos.line X.env = pure true)
    (hi : PI X tg iter wi) (ok : BlkOk X.N X.env.scope scope own)
    (hg : ∀ (s : Shared) (H : Hp) (C : Addr) (cl : List (Str × Addr)) (fp : List Addr),
      PG (X.blk s H scope (compEnvC scope cl C X.env) fp) tg g)
    (ht : ∀ (s : Shared) (H : Hp) (C : Addr) (cl : List (Str × Addr)) (fp : List Addr),
      PTs (X.blk s H scope (compEnvC scope cl C X.env) fp) ifs tt)
    (hk : ∀ (s : Shared) (H : Hp) (C : Addr) (cl : List (Str × Addr)) (fp : List Addr),
      PE (X.blk s H scope (compEnvC scope cl C X.env) fp) kx tk)
    (he : ∀ (s : Shared) (H : Hp) (C : Addr) (cl : List (Str × Addr)) (fp : List Addr),
      PE (X.blk s H scope (compEnvC scope cl C X.env) fp) vx tv)
    (hs : ∀ x, foldedSetIterable iter X.env x = pure x) :
    PS X (.Assign [.Name y py] (.DictComp kx vx [⟨tg, iter, ifs, 0⟩] scope pos) spos) (tAsg (tDc wi g tt tk tv (own.map (·.2))) (gName i)) := by
  constructor
  intro pins s σ H D I h
  rw [exec_Assign_Name_used _ _ _ _ hsw]
  refine wpAny_bind (wpAny_standAt (wpAny_bind ?_))
  have h9 : tDc wi g tt tk tv (own.map (·.2)) σ H (fun x H1 => gName i x σ H1 D.nx) := h
  have core := dc_core (pos := pos) (pos' := firstIterPos [⟨tg, iter, ifs, 0⟩] pos) (use := some (assign (.Name y py) X.env)) (Qf := fun _ s' => SP X pins D .next s') hc hN I hi ok hg ht hk he hs h9 ?_
  · exact wpAny_bind (thn core fun _ s' hq => wpAny_pure (wpAny_pure hq))
  intro L C s' m H' I' q hn f
  show wpAny _ _ (assign (.Name y py) X.env (.ref L)) _ _ _
  refine wpAny_assign_Name (store_ok2 (v := V.ref L) I' hN hy (.inl hyl) rfl ?_ (.inr hyl))
  rintro s2 I2 ⟨a, sb, ha⟩
  obtain ⟨f0, f1, f2, f3, f4, f5⟩ := f
  have hne : C ≠ a := by
    rcases ha with z | z
    · subst z; exact f1
    · intro e; exact f4 y a z e.symm
  refine ⟨m, hn.sameBut sb hne, fun h3 sb3 => ⟨_, H', ?_, q⟩⟩
  exact I2.turned (t' := s2.toks) (fun b o hb e => (sb3.2 b hb).trans e) f0 f1 f3 f4 f5
theorem sw_trueD {kx vx : Expr} {gs : List Comprehension} {scope : Scope} {pos py : Pos} {y : Str} {l : Nat} {env : PySem.Env} (hk : env.scope.kind = .function) (hy : env.scope.names.lookup y = some .local) (hl : (py.line == pos.line) = true)
    (ha : (scope.names.any fun (n, k) => n == y && (k == .local || k == .cell)) = false) : swapsWith (.DictComp kx vx gs scope pos) (some (.Name y py)) l env = pure true := by
  have e1 : env.kindOf y = some .local := hy
  have e2 : env.blockKind = .function := by
    unfold PySem.Env.blockKind
    rw [hk]; rfl
  unfold swapsWith
  simp only [e2, e1, ha, Expr.pos, hl]
  rfl
theorem S_setDComp {vs : List Nat} {i : Nat} {y : Str} {py : Pos} {kx vx tg iter : Expr} {ifs : List Expr} {scope : Scope} {own : List (Str × Nat)} {pos spos : Pos} {t : TG} {g : GX} {is : List Nat} {it : IX} {tt : TX} {fk fv : EX} (hc : X.calm = true) (hN : X.N.Nodup) (hy : X.N[i]? = some y) (hyl : X.env.scope.names.lookup y = some .local)
    (hsw : swapsWith (.DictComp kx vx [⟨tg, iter, ifs, 0⟩] scope pos) (some (.Name y py)) spos.line X.env = pure true) (hi : PDI X W tg iter it) (ok : BlkOk X.N X.env.scope scope own)
    (hg : ∀ (s : Shared) (H : Hp) (C : Addr) (cl : List (Str × Addr)) (fp : List Addr), PG (X.blk s H scope (compEnvC scope cl C X.env) fp) tg t) (hq : GOk X.K W t g is) (hv : ∀ i ∈ is, i ∈ vs)
    (ht : ∀ (s : Shared) (H : Hp) (C : Addr) (cl : List (Str × Addr)) (fp : List Addr), PTs (X.blk s H scope (compEnvC scope cl C X.env) fp) ifs (tT (X.blk s H scope (compEnvC scope cl C X.env) fp) W tt))
    (hk : ∀ (s : Shared) (H : Hp) (C : Addr) (cl : List (Str × Addr)) (fp : List Addr), PD (X.blk s H scope (compEnvC scope cl C X.env) fp) W kx fk)
    (he : ∀ (s : Shared) (H : Hp) (C : Addr) (cl : List (Str × Addr)) (fp : List Addr), PD (X.blk s H scope (compEnvC scope cl C X.env) fp) W vx fv) (hs : ∀ x, foldedSetIterable iter X.env x = pure x := by intro _; rfl) (hvs : own.map (·.2) = vs := by rfl) :
    PDS X W (.Assign [.Name y py] (.DictComp kx vx [⟨tg, iter, ifs, 0⟩] scope pos) spos) (sAsg (gV i) (eDComp vs g it tt fk fv)) := by
  subst hvs
  refine imp_S (ps_setDcD (tt := tTk X.K W tt) (tk := tDk X.K W fk) (tv := tDk X.K W fv) hc hN hy hyl hsw hi ok hg (fun s H C cl fp => tsk (ht s H C cl fp)) (fun s H C cl fp => dk (hk s H C cl fp)) (fun s H C cl fp => dk (he s H C cl fp)) hs) fun E σ H ⟨fr, F, ρ, n, r, n', R, e, k⟩ => ?_
  rcases r with z | o
  · refine d_tDc hq hv (R.dE e (KS.x k) fun _ _ _ _ _ _ h _ _ _ => ?_)
    rcases M.bind_err h with h | ⟨_, _, _, h⟩
    · exact (M.opt_err h).elim
    · exact (M.pure_err h).elim
  obtain ⟨x, n1, e1, ha⟩ := M.bind_ok e
  obtain ⟨ρ', n2, e2, h⟩ := M.bind_ok ha
  obtain ⟨h1, h2⟩ := M.pure_ok h
  obtain ⟨h3, h4⟩ := M.opt_ok e2
  clear ha h
  subst h4
  subst h1 h2
  refine d_tDc hq hv ⟨fr, F, ρ, n, .ok x, _, R, e1, fun F1 H1 v R1 s1 d1 => ?_⟩
  cases h3
  exact k F1 H1 _ (R1.set d1) s1
end
theorem kit_self {K : PySem.W.Frag} {C : Addr} : PySem.W.kitOne K (.ref C) (.ref C) = some true := if_pos (beq_self_eq_true _)
theorem kit_sub {K : PySem.W.Frag} {C : Addr} {t : Value} (hd : PySem.W.hasDictIn K C = true) (ht : PySem.W.typeIn K (.ref C) = some (.type "type")) (h : PySem.W.subIn K t (.ref C) = some true) : PySem.W.kitOne K t (.ref C) = some true := by
  obtain ⟨cd, hc, _⟩ := PySem.W.any_some hd
  have e : ((PySem.W.clsIn K C).isSome && PySem.W.typeIn K (.ref C) == some (.type "type")) = true := by
    rw [hc, ht]; rfl
  unfold PySem.W.kitOne
  split
  · rfl
  · show (if ((PySem.W.clsIn K C).isSome && PySem.W.typeIn K (.ref C) == some (.type "type")) = true then PySem.W.subIn K t (.ref C) else none) = some true
    rw [if_pos e]; exact h
end DL
end

section
set_option Elab.async false
set_option linter.all false
set_option autoImplicit false
set_option maxRecDepth 100000
set_option maxHeartbeats 1000000
/-! a lambda without parameters, handed to a def that tells whether it is refused -/
namespace DL
open PySem PySem.Spec L2
theorem Rel.extN {K : PySem.W.Frag} {W : Wd} {fr : Fr} {F H H1 : Hp} {σ : St} {ρ : Env} {n : Int} (r : Rel K W fr F H σ ρ n) (x : LamX.ExtN H H1) (t : LamX.Tabs W.tb H1) : Rel K W fr F H1 σ ρ n := by
  have c := r.core
  refine r.keep ⟨fun a o q => x a o (c.sub a o q) (c.ntF a o q), fun a o q1 q2 q3 => ?_, c.f0, c.new, fun a o q => ?_, fun a q => ?_, c.ntF, t⟩ (Sub.refl _) (fun a o q nt _ => x a o q nt) fun a o _ _ q => q
  · have h := c.base a o q1 q2 q3
    obtain ⟨o', q, nt⟩ := c.there a o q1
    rw [h] at q; cases q
    exact x a o h nt
  · obtain ⟨o', q', nt⟩ := c.there a o q
    exact ⟨o', x a o' q' nt, nt⟩
  · obtain ⟨q1, q2, q3⟩ := c.draw a q
    exact ⟨q1, x a _ q2 (fun _ z => by cases z), q3⟩
/-- an expression's reading, where what is raised is wished for by E -/
def tDE (K : PySem.W.Frag) (W : Wd) (E : XK) (f : EX) : TE := fun σ H Q => ∃ fr F ρ n r n', Rel K W fr F H σ ρ n ∧ f ρ n = some (r, n') ∧
  Res (fun d => ∀ F' H' v, Rel K W fr F' H' σ ρ n' → Sub F F' → Den K W fr.dr F' v d → Q v H') (fun z => ∀ F' H' cls d, Rel K W fr F' H' σ ρ n' → Sub F F' → XDen K W fr.dr F' H' z cls d → E cls d H') r
/-- refused? -/
def eLam (m : Nat → Option Bool) (f : EX) : EX := fun ρ n => match f ρ n with
  | some (.ok _, n1) => some (.ok (.bl false), n1)
  | some (.error z, n1) => (match m z.c with
    | some true => some (.ok (.bl true), n1)
    | _ => none)
  | none => none
def TTr (K : PySem.W.Frag) (c : Value) : (XK → Hp → VK → Prop) → Hp → VK → Prop := fun tl H Q =>
  ∀ E Q', (∀ cls d H', PySem.W.exmOne K cls c = some true → Q (.bl true) H' → E cls d H') → (∀ v H', Q (.bl false) H' → Q' v H') → tl E H Q'
theorem gives_refused {X : Cx} {Ng : List Str} {x : Str} {sg : Scope} {g : Addr} {cdg : Value} {bg : List Stmt} {a q ex : Str} {c : Value} {p1 p2 p3 p4 p5 p6 p7 p8 : Pos} {k1 k2 : Nat}
    (hbg : bg = [.Try [.Expr (.Call (.Name a p1) [] [] p2) p3] [.ExceptHandler (some (.Name ex p4)) none [.Return (some (.Constant (.bool true) k1 p5)) p6] p7] [] [] p8, .Return (some (.Constant (.bool false) k2 p1)) p2]) (hc : ∀ s H, Names (cxOf C8.CX0 X.prog X.w X.K X.mg X.base Ng x sg g cdg X.A X.stack s H C8.E0).nox ex c) : LamX.GivesTo X Ng x sg g cdg bg a q (TTr X.K c) := by
  intro f c' s H Q tl call hc' tt
  subst hbg
  refine ⟨_, pss_cons (ps_try_only (Wout := fun _ _ _ _ => False) (c := c) rfl rfl (hc s H) LamX.takes0 (fun Wx pn xe tk po => pss_one (ps_expr (call Wx pn xe (fun cls d H' => ∀ σ', Wx cls d σ' H') p1 p2 tk fun cls d σ' H' k => k σ') rfl)) fun a oe cls d pn _ _ => pss_one (ps_ret pe_bl)) (pss_one (ps_ret pe_bl)), ?_⟩
  refine ⟨rfl, hc', tt _ _ (fun cls d H' h1 h2 σ' => ⟨true, h1, fun _ _ _ => h2, fun z => nomatch z⟩) fun v H' h => h⟩
theorem lam_body {X : Cx} {W : Wd} {A : Around} {outer : List PySem.Env} {s : Shared} {H : Hp} {E : XK} {scope : Scope} {f c' : Addr} {body : Expr} {g : EX} (h : PD (LamX.lamCx X A outer s H E scope f c') W body g) : PE (LamX.lamCx X A outer s H E scope f c') body (tDE X.K W E g) :=
  imp_E h fun σ H1 Q ⟨fr, F, ρ, n, r, n', R, e, k⟩ => by
    refine ⟨fr, F, ρ, n, r, n', R, e, ?_⟩
    cases r with
    | ok d => exact k
    | error z => exact fun F' H' cls d R' s' xd => acc_of (E := E) rfl rfl rfl rfl (k F' H' cls d R' s' xd)
theorem d_lam {X : Cx} {W : Wd} {x a : Str} {g c P : Addr} {k : Nat} {pg : Arguments} {bg : List Stmt} {sg : Scope} {dV kV doc pm cdv ct oc cx : Value} {an od : Option Addr} {osl : Array (Option Value)} {Ng : List Str} {params : Arguments} {body : Expr} {scope : Scope} {p lpos pos : Pos} {m : Nat → Option Bool} {f : EX}
    (hg : Gl X x) (hm : X.mg x = some (.ref g)) (hk : PySem.W.keepIn X.K (.ref g) = true) (lk : X.K.lookup g = some ⟨oc, od, .func (PySem.W.fnOf x x pg bg sg dV kV doc pm an cdv ct), osl⟩) (hcg : PySem.W.codeIn X.K cdv x = true)
    (hb : Binds X.K (PySem.W.fnOf x x pg bg sg dV kV doc pm an cdv ct) [a] []) (Sg : FnScope Ng [a] sg) (hNg : Ng[0]? = some a) (hva : Vis sg a) (hG : LamX.GivesTo X Ng x sg g cdv bg a (X.env.qual ++ ("<lambda>" : Str)) (TTr X.K cx))
    (TB : LamX.TabB X.base X.mg c P) (hcode : X.env.code = .ref c) (hT : W.tb = [(P, X.env.qual ++ ("<lambda>" : Str))]) (hr : Room (k + 2) X.A) (L : LamX.LamS X.env.scope scope) (hdef : defaultsOf params X.env = ([], []))
    (hbind : ∀ (q : Str) (cl : List (Str × Addr)) (pm cv ctv : Value), bindArgs (PySem.W.kla_fn "<lambda>" q params body scope cl pm cv ctv) ⟨[], []⟩ = pure []) (hmm : ∀ i b, m i = some b → PySem.W.exmOne X.K (.ref (W.cl i)) cx = some b)
    (hbody : ∀ (A : Around) (outer : List PySem.Env) (s : Shared) (H : Hp) (E : XK) (f' c' : Addr), Room k (A.deeper (LamX.lamEnv X scope s.heap.objs.size f' c')) → PD (LamX.lamCx X A outer s H E scope f' c') W body f) (h1 : (x == ("__debug__" : Str)) = false := by decide) (h2 : (a == ("__debug__" : Str)) = false := by decide) (h3 : (a == ("__classdict__" : Str)) = false := by decide) :
    PD X W (.Call (.Name x p) [.Lambda params body scope lpos] [] pos) (eLam m f) := by
  refine imp_E (LamX.pe_lamcall (TT := TTr X.K cx) (t := fun E => tDE X.K W E f) (T := W.tb) hg hm hk lk hcg hb Sg hNg hva hG TB hcode (by rw [hT]; exact List.mem_singleton.mpr rfl) (fun p hp _ => by rw [hT] at hp; rw [List.mem_singleton.mp hp]) hr L hdef hbind (fun A outer s H E f' c' r => lam_body (hbody A outer s H E f' c' r)) h1 h2 h3) ?_
  rintro σ H Q ⟨fr, F, ρ, n, r, n', R, e, kk⟩
  refine ⟨R.core.tabs, fun H1 x1 t1 => ?_⟩
  have R1 := R.extN x1 t1
  intro E Q' hE hQ
  unfold eLam at e
  split at e
  · rename_i d n1 e1
    cases e
    exact ⟨fr, F, ρ, n, .ok d, n', R1, e1, fun F' H' v R' s' _ => hQ v H' (kk F' H' (.bl false) R' s' (.bl false))⟩
  · rename_i z n1 e1
    split at e
    · rename_i hz
      cases e
      refine ⟨fr, F, ρ, n, .error z, n', R1, e1, fun F' H' cls d R' s' xd => hE cls d H' ?_ (kk F' H' (.bl true) R' s' (.bl true))⟩
      have ec : cls = .ref (W.cl z.c) := xd.1
      rw [ec]
      exact hmm _ _ hz
    · cases e
  · cases e
end DL
end

section
set_option Elab.async false
set_option linter.all false
set_option autoImplicit false
set_option maxRecDepth 100000
set_option maxHeartbeats 1000000
/-! xs += ys; min, max of ints; how many different ints -/
namespace DL
open PySem PySem.Spec L2
section
variable {X : Cx} {W : Wd}
theorem set_eqv {α : Type} {l : List α} {i : Nat} {x : α} (h : l[i]? = some x) : l.set i x = l := by
  apply List.ext_getElem?
  intro j
  by_cases c : i = j
  · subst c
    rw [h, List.getElem?_set_self (List.getElem?_eq_some_iff.mp h).1]
  · rw [List.getElem?_set_ne c]
/-- x += e, lists, x one's own -/
def uExt (d : D) : D → Option D
  | .lst xs => match d with
    | .lst ys => if xs.length + ys.length ≤ sizeLine then some (.lst (xs ++ ys)) else none
    | _ => none
  | _ => none
def sExt (i : Nat) (fx : EX) : SX := fun ρ => M.bind (M.opt (ownLst i ρ)) fun _ => sUp i uExt fx ρ
theorem S_ext {i : Nat} {y : Str} {e : Expr} {fx : EX} {p pos : Pos} (hN : X.N.Nodup) (hi : X.N[i]? = some y) (hx : Loc X.env.scope y) (he : PD X W e fx) (hf : X.fn y = true ∨ X.env.scope.names.lookup y = some .local := by first | exact .inl rfl | exact .inr rfl | assumption) : PDS X W (.AugAssign (.Name y p) .Add e pos) (sExt i fx) := imp_S (ps_aug hN hi hx he (iop_ext : OpR X (inplaceOp .Add) rExt2) hf) fun E σ H ⟨fr, F, ρ, n, r, n', R, e, k⟩ => by
  rcases M.bind_any e with ⟨z, e0, rfl⟩ | ⟨ds0, n0, e0, e9⟩
  · exact (M.opt_err e0).elim
  clear e
  have e := e9
  clear e9
  obtain ⟨q0, q1⟩ := M.opt_ok e0
  subst q1
  obtain ⟨zs0, q0⟩ := ownLst_some q0
  obtain ⟨ad0, s0⟩ := R.slots
  obtain ⟨z1, z2, z3, z4, z5, z7⟩ := s0.own i _ q0
  refine ⟨_, z1, ?_⟩
  rcases r with z | o
  · refine R.dE e (KS.x k) fun _ _ _ _ _ _ h _ _ _ => ?_
    rcases M.bind_err h with h | ⟨_, _, _, h⟩
    · exact (M.opt_err h).elim
    · exact (M.pure_err h).elim
  obtain ⟨d, a, b, e1, hi, e3, rfl⟩ := sUp_ok e
  unfold uExt at e3
  cases a with
  | lst ds =>
    cases d with
    | lst ys =>
      have e3 : (if ds.length + ys.length ≤ sizeLine then some (D.lst (ds ++ ys)) else none) = some b := e3
      split at e3
      · rename_i q
        cases e3
        refine ⟨fr, F, ρ, _, .ok _, _, R, e1, fun F1 H1 v R1 s1 d1 => ?_⟩
        obtain ⟨ad, s⟩ := R1.slots
        obtain ⟨a1, a2, a3, a4, ⟨us, a5, a6⟩, a7⟩ := s.own i _ hi
        have ea : ad i = ad0 i := by rw [a1] at z1; injection z1 with z1; injection z1 with z1; injection z1
        cases d1 with
        | lst b1 b2 =>
          rename_i l vs
          refine ⟨ad i, l, us, vs, by rw [ea], rfl, a5, R1.core.sub _ _ b1, by rw [a6.length, b2.length]; exact q, ?_⟩
          have ch := R1.change s hi (o := .lst (us ++ vs)) (d' := .lst (ds ++ ys)) ⟨us ++ vs, upd_same, a6.append b2⟩ rfl
          show E.nx (σ.set i (some (.ref (ad i)))) _
          rw [set_eqv a1]
          exact k F1 _ _ ch s1
      · cases e3
    | _ => cases e3
  | _ => cases e3
/-- min, max of a list of ints -/
def lstI : List D → Option (List Int)
  | [.lst ds] => dInts ds
  | _ => none
def minI : List Int → Option Int
  | [] => none
  | a :: r => some (r.foldl (fun m y => if y < m then y else m) a)
def maxI : List Int → Option Int
  | [] => none
  | a :: r => some (r.foldl (fun m y => if m < y then y else m) a)
def dMinL (xs : List D) : Option D := (lstI xs).bind fun ns => (minI ns).map D.int
def dMaxL (xs : List D) : Option D := (lstI xs).bind fun ns => (maxI ns).map D.int
theorem fold_min : ∀ (r : List Int) (a : Int), (r.foldl (fun m y => if y < m then y else m) a = a ∨ r.foldl (fun m y => if y < m then y else m) a ∈ r) ∧ r.foldl (fun m y => if y < m then y else m) a ≤ a ∧ ∀ y ∈ r, r.foldl (fun m y => if y < m then y else m) a ≤ y
  | [], a => ⟨.inl rfl, Int.le_refl _, fun _ h => absurd h List.not_mem_nil⟩
  | b :: r, a => by
    obtain ⟨h1, h2, h3⟩ := fold_min r (if b < a then b else a)
    rw [List.foldl_cons]
    have le : (if b < a then b else a) ≤ a ∧ (if b < a then b else a) ≤ b := by split <;> omega
    refine ⟨?_, by omega, fun y hy => ?_⟩
    · rcases h1 with h | h
      · rw [h]
        split
        · exact .inr List.mem_cons_self
        · exact .inl rfl
      · exact .inr (List.mem_cons_of_mem _ h)
    · rcases List.mem_cons.mp hy with rfl | hy
      · omega
      · exact h3 y hy
theorem fold_max : ∀ (r : List Int) (a : Int), (r.foldl (fun m y => if m < y then y else m) a = a ∨ r.foldl (fun m y => if m < y then y else m) a ∈ r) ∧ a ≤ r.foldl (fun m y => if m < y then y else m) a ∧ ∀ y ∈ r, y ≤ r.foldl (fun m y => if m < y then y else m) a
  | [], a => ⟨.inl rfl, Int.le_refl _, fun _ h => absurd h List.not_mem_nil⟩
  | b :: r, a => by
    obtain ⟨h1, h2, h3⟩ := fold_max r (if a < b then b else a)
    rw [List.foldl_cons]
    have le : a ≤ (if a < b then b else a) ∧ b ≤ (if a < b then b else a) := by split <;> omega
    refine ⟨?_, by omega, fun y hy => ?_⟩
    · rcases h1 with h | h
      · rw [h]
        split
        · exact .inr List.mem_cons_self
        · exact .inl rfl
      · exact .inr (List.mem_cons_of_mem _ h)
    · rcases List.mem_cons.mp hy with rfl | hy
      · omega
      · exact h3 y hy
theorem minI_ok {ns : List Int} {m : Int} (h : minI ns = some m) : 0 < ns.length ∧ m ∈ ns ∧ ∀ y ∈ ns, m ≤ y := by
  cases ns with
  | nil => cases h
  | cons a r =>
    obtain ⟨h1, h2, h3⟩ := fold_min r a
    injection h with h
    rw [h] at h1 h2 h3
    refine ⟨by simp, ?_, fun y hy => ?_⟩
    · rcases h1 with h1 | h1
      · rw [h1]; exact List.mem_cons_self
      · exact List.mem_cons_of_mem _ h1
    · rcases List.mem_cons.mp hy with rfl | hy
      · exact h2
      · exact h3 y hy
theorem maxI_ok {ns : List Int} {m : Int} (h : maxI ns = some m) : 0 < ns.length ∧ m ∈ ns ∧ ∀ y ∈ ns, y ≤ m := by
  cases ns with
  | nil => cases h
  | cons a r =>
    obtain ⟨h1, h2, h3⟩ := fold_max r a
    injection h with h
    rw [h] at h1 h2 h3
    refine ⟨by simp, ?_, fun y hy => ?_⟩
    · rcases h1 with h1 | h1
      · rw [h1]; exact List.mem_cons_self
      · exact List.mem_cons_of_mem _ h1
    · rcases List.mem_cons.mp hy with rfl | hy
      · exact h2
      · exact h3 y hy
theorem lstI_ok {K : PySem.W.Frag} {dr : Option Addr} {F : Hp} {xs : List D} {ns : List Int} {vs : List V} (d : Dens K W dr F vs xs) (h : lstI xs = some ns) : ∃ a, vs = [.ref a] ∧ F a = some (.lst (ns.map V.int)) := by
  unfold lstI at h
  split at h
  · cases d with
    | cons h1 h2 =>
      cases h2
      cases h1 with
      | lst h3 h4 => exact ⟨_, rfl, by rw [← ints_of h4 h]; exact h3⟩
  · cases h
theorem q_minL {K : PySem.W.Frag} : CallD K W (rMin K) dMinL := by
  intro fr F H σ ρ n xs d vs Q R dx h k
  unfold dMinL at h
  cases e : lstI xs with
  | none => rw [e] at h; cases h
  | some ns =>
    rw [e] at h
    cases e2 : minI ns with
    | none => rw [Option.bind_some, e2] at h; cases h
    | some m0 =>
      rw [Option.bind_some, e2] at h
      cases h
      obtain ⟨a, rfl, hF⟩ := lstI_ok dx e
      obtain ⟨h1, h2, h3⟩ := minI_ok e2
      refine ⟨a, ns, rfl, SqL.of (R.core.sub _ _ hF), h1, fun m hm hl => ?_⟩
      have : m = m0 := Int.le_antisymm (hl _ h2) (h3 _ hm)
      rw [this]
      exact k F H _ R (Sub.refl _) (.int _)
theorem q_maxL {K : PySem.W.Frag} : CallD K W (rMax K) dMaxL := by
  intro fr F H σ ρ n xs d vs Q R dx h k
  unfold dMaxL at h
  cases e : lstI xs with
  | none => rw [e] at h; cases h
  | some ns =>
    rw [e] at h
    cases e2 : maxI ns with
    | none => rw [Option.bind_some, e2] at h; cases h
    | some m0 =>
      rw [Option.bind_some, e2] at h
      cases h
      obtain ⟨a, rfl, hF⟩ := lstI_ok dx e
      obtain ⟨h1, h2, h3⟩ := maxI_ok e2
      refine ⟨a, ns, rfl, SqL.of (R.core.sub _ _ hF), h1, fun m hm hl => ?_⟩
      have : m = m0 := Int.le_antisymm (h3 _ hm) (hl _ h2)
      rw [this]
      exact k F H _ R (Sub.refl _) (.int _)
/-- len(set(e)): ints, no two alike -/
def dLenSet : D → Option D
  | .lst ds => match dInts ds with
    | some ns => if ns.length < 64 ∧ ns.Nodup then some (.int ns.length) else none
    | none => none
  | _ => none
theorem d_lenSet {a : Expr} {fa : EX} {p p2 q pos : Pos} (hg : Gl X "len") (hm : X.mg "len" = none) (hg2 : Gl X "set") (hm2 : X.mg "set" = none) (ha : PD X W a fa) (hc : X.calm = true := by rfl) (na : starEach [a] X.env = (false, eval a X.env) :: starEach [] X.env := by rfl) : PD X W (.Call (.Name "len" p) [.Call (.Name "set" p2) [a] [] q] [] pos) (e1 dLenSet fa) := imp_E (RZ.pe_lenSetI hg hm hg2 hm2 ha hc na) fun σ H Q ⟨fr, F, ρ, n, r, n', R, e, k⟩ => by
  rcases r with z | o
  · exact R.dE1 e k
  obtain ⟨x, n1, e1, h⟩ := M.bind_ok e
  obtain ⟨h1, h2⟩ := M.opt_ok h
  subst h2
  refine ⟨fr, F, ρ, n, .ok x, _, R, e1, fun F1 H1 v R1 s1 d1 => ?_⟩
  unfold dLenSet at h1
  split at h1
  · split at h1
    · split at h1
      · rename_i ns q1 q2
        cases h1
        cases d1 with
        | lst b1 b2 =>
          have := ints_of b2 q1
          subst this
          exact ⟨_, ns, rfl, SqL.of (R1.core.sub _ _ b1), q2.2, by have := q2.1; omega, k F1 H1 _ R1 s1 (.int _)⟩
      · cases h1
    · cases h1
  · cases h1
end
end DL
end

section
set_option Elab.async false
set_option linter.all false
set_option autoImplicit false
set_option maxRecDepth 100000
set_option maxHeartbeats 1000000
/-! a def that tells whether a deed is refused, as a fact; the end of a law with lambdas -/
namespace DL
open PySem PySem.Spec L2
open PyProof.Rows (envOfC)
structure LamF (K : PySem.W.Frag) (mg : Str → Option Value) (x a ex : Str) (cx : Value) : Prop where
  ex : ∃ (g : Addr) (pg : Arguments) (bg : List Stmt) (sg : Scope) (dV kV doc pm cdv ct oc : Value) (an od : Option Addr) (osl : Array (Option Value)) (Ng : List Str) (p1 p2 p3 p4 p5 p6 p7 p8 p9 pa : Pos) (k1 k2 : Nat),
    mg x = some (.ref g) ∧ PySem.W.keepIn K (.ref g) = true ∧ K.lookup g = some ⟨oc, od, .func (PySem.W.fnOf x x pg bg sg dV kV doc pm an cdv ct), osl⟩ ∧ PySem.W.codeIn K cdv x = true ∧ Binds K (PySem.W.fnOf x x pg bg sg dV kV doc pm an cdv ct) [a] [] ∧ FnScope Ng [a] sg ∧ Ng[0]? = some a ∧ Vis sg a ∧
    bg = [.Try [.Expr (.Call (.Name a p1) [] [] p2) p3] [.ExceptHandler (some (.Name ex p4)) none [.Return (some (.Constant (.bool true) k1 p5)) p6] p7] [] [] p8, .Return (some (.Constant (.bool false) k2 p9)) pa] ∧ (envOfC x sg 0 0 .none).kindOf ex = some .globalImplicit ∧ mg ex = some cx ∧ (ex == ("__debug__" : Str)) = false ∧ (x == ("__debug__" : Str)) = false ∧ (a == ("__debug__" : Str)) = false ∧ (a == ("__classdict__" : Str)) = false
theorem gives_refused' {X : Cx} {Ng : List Str} {x : Str} {sg : Scope} {g : Addr} {cdg : Value} {bg : List Stmt} {a q ex : Str} {c : Value} {p1 p2 p3 p4 p5 p6 p7 p8 p9 pa : Pos} {k1 k2 : Nat}
    (hbg : bg = [.Try [.Expr (.Call (.Name a p1) [] [] p2) p3] [.ExceptHandler (some (.Name ex p4)) none [.Return (some (.Constant (.bool true) k1 p5)) p6] p7] [] [] p8, .Return (some (.Constant (.bool false) k2 p9)) pa]) (hc : ∀ s H, Names (cxOf C8.CX0 X.prog X.w X.K X.mg X.base Ng x sg g cdg X.A X.stack s H C8.E0).nox ex c) : LamX.GivesTo X Ng x sg g cdg bg a q (TTr X.K c) := by
  intro f c' s H Q tl call hc' tt
  subst hbg
  refine ⟨_, pss_cons (ps_try_only (Wout := fun _ _ _ _ => False) (c := c) rfl rfl (hc s H) LamX.takes0 (fun Wx pn xe tk po => pss_one (ps_expr (call Wx pn xe (fun cls d H' => ∀ σ', Wx cls d σ' H') p1 p2 tk fun cls d σ' H' k => k σ') rfl)) fun a oe cls d pn _ _ => pss_one (ps_ret pe_bl)) (pss_one (ps_ret pe_bl)), ?_⟩
  refine ⟨rfl, hc', tt _ _ (fun cls d H' h1 h2 σ' => ⟨true, h1, fun _ _ _ => h2, fun z => nomatch z⟩) fun v H' h => h⟩
theorem d_lamF {X : Cx} {W : Wd} {x a ex : Str} {c P : Addr} {k : Nat} {cx : Value} {params : Arguments} {body : Expr} {scope : Scope} {p lpos pos : Pos} {m : Nat → Option Bool} {f : EX} (G : LamF X.K X.mg x a ex cx) (hg : Gl X x)
    (TB : LamX.TabB X.base X.mg c P) (hcode : X.env.code = .ref c) (hT : W.tb = [(P, X.env.qual ++ ("<lambda>" : Str))]) (hr : Room (k + 2) X.A) (L : LamX.LamS X.env.scope scope) (hdef : defaultsOf params X.env = ([], []))
    (hbind : ∀ (q : Str) (cl : List (Str × Addr)) (pm cv ctv : Value), bindArgs (PySem.W.kla_fn "<lambda>" q params body scope cl pm cv ctv) ⟨[], []⟩ = pure []) (hmm : ∀ i b, m i = some b → PySem.W.exmOne X.K (.ref (W.cl i)) cx = some b)
    (hbody : ∀ (A : Around) (outer : List PySem.Env) (s : Shared) (H : Hp) (E : XK) (f' c' : Addr), Room k (A.deeper (LamX.lamEnv X scope s.heap.objs.size f' c')) → PD (LamX.lamCx X A outer s H E scope f' c') W body f) :
    PD X W (.Call (.Name x p) [.Lambda params body scope lpos] [] pos) (eLam m f) := by
  obtain ⟨g, pg, bg, sg, dV, kV, doc, pm, cdv, ct, oc, an, od, osl, Ng, p1, p2, p3, p4, p5, p6, p7, p8, p9, pa, k1, k2, h1, h2, h3, h4, h5, h6, h7, h8, h9, h10, h11, h12, h13, h14, h15⟩ := G.ex
  exact d_lam hg h1 h2 h3 h4 h5 h6 h7 h8 (gives_refused' h9 fun s H => ⟨h10, h12, .inl h11⟩) TB hcode hT hr L hdef hbind hmm hbody h13 h14 h15
/-- the end, where the law's own code object keeps an empty table that stands outside K -/
theorem law_walkT {l : PySem.W.OpenLaw} {q : Program} {loose : List Str} {XP : (Str → Option Value) → Heap → Prop} {YP : World → Heap → Prop} {d : DefRec} {K : Params → PySem.W.Frag} {k : Nat} {x : Str} {c P : Addr} {T : Str} (hn : l.most = some 63) (hdf : d.params.defaults = []) (hr : Room k callerA)
    (hY : ∀ (w : World) (h : Heap), YP w h → (K w.params).In h) (hP : ∀ (w : World) (h : Heap), YP w h → h.get? P = some { cls := .none, data := .fields #[] }) (hL : ∀ p : Params, (K p).lookup P = none) (hC : ∀ p : Params, PySem.W.codeHdIn (K p) c P = true)
    (F : ∀ (w : World) (mg : Str → Option Value) (fa : Addr) (h : Heap), (K w.params).In h → h.Ns mainGlobals mg → mg d.name = some (.ref fa) →
      ∃ fd : FuncData, (∀ (s : Shared) (u : Value), BindsTo s fd ⟨[u], []⟩ [(x, u)]) ∧ ∀ base : Heap, (K w.params).In base → base.Ns mainGlobals mg → LamX.TabB base mg c P → FnOk l.prog w (K w.params) mg base (L2.CX l.prog w) k fa fd [x] (spLaw (K w.params) [(P, T)])) :
    PySem.W.WalkO q loose XP YP l.row.toRowW d [] (fun f vs => PySem.call f vs) :=
  LamX.walk_ofTs (n := 63) (k := k) (x := x) (CX := fun w => L2.CX l.prog w) hn (by decide) hdf hr hY (fun w mg fa h Y KX G hm => by
    obtain ⟨fd, hb, hF⟩ := F w mg fa h KX G hm
    refine ⟨fd, [(c, P)], spLaw (K w.params) [(P, T)], fun p hp => ?_, fun p hp => ?_, fun p hp => ?_, hb, fun H a ns hl _ hT hS => ?_, fun base KX G TB => hF base KX G (TB (c, P) (List.mem_singleton.mpr rfl))⟩
    · rw [List.mem_singleton.mp hp]; exact hP w h Y
    · rw [List.mem_singleton.mp hp]; exact hL _
    · rw [List.mem_singleton.mp hp]; exact PySem.W.codeHd_of_K KX (hC _)
    · refine ⟨a, ns, rfl, hS, hl, fun p hp => ?_, fun _ => rfl⟩
      rw [List.mem_singleton.mp hp]
      exact LamX.TabS.nil (hT (c, P) (List.mem_singleton.mpr rfl)))
    fun _ _ _ _ _ ⟨_, _, _, _, _, _, _, _, _, _, _, _, z⟩ => z
end DL
end

section
set_option Elab.async false
set_option linter.all false
set_option autoImplicit false
set_option maxRecDepth 100000
set_option maxHeartbeats 1000000
/-! min(rows, key=lambda row: row[0]) -/
namespace DL
open PySem PySem.Spec L2
open PyProof.Rows
/-- the scope of a lambda with one parameter that reads nothing else -/
structure LamP (row : Str) (scope : Scope) : Prop where
  kind : scope.kind = .function
  co : scope.isCoroutine = false
  gen : scope.isGenerator = false
  nocell : ∀ y ∈ scope.names, y.2 ≠ .cell
  nofree : ∀ y ∈ scope.names, y.2 ≠ .free
  loc : scope.names.lookup row = some .local
  ndb : (row == ("__debug__" : Str)) = false
def lamPB (row : Str) (scope : Scope) : Bool := decide (scope.kind = .function) && !scope.isCoroutine && !scope.isGenerator && (scope.names.all fun y => !decide (y.2 = .cell) && !decide (y.2 = .free)) && decide (scope.names.lookup row = some .local) && !(row == ("__debug__" : Str))
theorem lamP_by {row : Str} {scope : Scope} (h : lamPB row scope = true) : LamP row scope := by
  unfold lamPB at h
  simp only [Bool.and_eq_true, Bool.not_eq_true', decide_eq_true_eq, decide_eq_false_iff_not, List.all_eq_true] at h
  obtain ⟨⟨⟨⟨⟨h1, h2⟩, h3⟩, h4⟩, h5⟩, h6⟩ := h
  exact ⟨h1, h2, h3, fun y hy => (h4 y hy).1, fun y hy => (h4 y hy).2, h5, h6⟩
section
variable {prog : Program} {w : World} {A : Around} {E : Value → Shared → Prop} {s : Shared}
/-- the lambda's run -/
theorem key_turn {f b c' : Addr} {row qual : Str} {params : Arguments} {scope : Scope} {p1 p2 p3 : Pos} {jj : Nat} {cl : List (Str × Addr)} {its : List Value} {k : Int} {t : Tok} {pm ctv : Value} {Q : Value → Shared → Prop} (hroom : A.depth < recursionLimit)
    (ho : s.heap.get? f = some (PySem.W.kla_obj "<lambda>" qual params (.Subscript (.Name row p1) (.Constant (.int 0) jj p2) p3) scope cl pm c' ctv)) (L : LamP row scope) (hb : IsTup s.heap b its.toArray) (h0 : its[0]? = some (.int k t)) (hz : its.length ≤ sizeLine) (hcode : s.heap.CodeRec (.ref c') qual) (lim : s.heap.NoLimit)
    (hbind : bindArgs (PySem.W.kla_fn "<lambda>" qual params (.Subscript (.Name row p1) (.Constant (.int 0) jj p2) p3) scope cl pm (.ref c') ctv) ⟨[.ref b], []⟩ = pure [(row, .ref b)])
    (h : ∀ h' tk, (∀ a o, s.heap.get? a = some o → h'.get? a = some o) → Q (.int k t) { s with heap := h', toks := tk }) :
    wpAny (model prog w) A (call (.ref f) [.ref b]) Q E s := by
  refine wpAny_call (PySem.W.kla_callFunE hroom ho rfl L.co L.gen rfl hcode ?_)
  rw [hbind]
  refine wpAny_pure (wpAny_newFunctionEnv L.nocell (fun y hy => by rw [List.mem_singleton.mp hy]; exact L.loc) (fun h₁ hns hsb => ⟨lim.fresh _ hsb, ?_⟩) L.kind)
  have kp : ∀ b o, s.heap.get? b = some o → h₁.get? b = some o := fun b o e => hsb.extBut b o (Nat.ne_of_lt (Heap.lt_size e)) (Heap.get?_push_of_some _ e)
  refine PySem.W.kla_codeExpr (PyProof.Rows.Subscript_ ?_)
  refine wpAny_Name (wpAny_loadName_local (v := .ref b) L.kind L.loc hns (by simp) ?_) L.ndb
  refine wpAny_Constant_int ?_
  have hb' : IsTup h₁ b its.toArray := by
    obtain ⟨o, e, r⟩ := hb
    exact ⟨o, kp _ _ e, r⟩
  have hl : 0 < its.length := (List.getElem?_eq_some_iff.mp h0).1
  have hn := line63
  refine subscriptTail_builtinR (x := .int k t) hb'.typeIs slot_tuple_getitem.lookup (getItem_tuple (j := 0) (Q := fun r s' => r = .int k t ∧ _) hb' (by omega) (by omega) ?_ (by simpa using h0) ⟨rfl, h _ _ kp⟩) (by rfl)
  rw [List.size_toArray]
  exact seqIndex_of (Int.le_refl 0) (by omega)
end
theorem kept_but {X : Cx} {pins : List (Addr × Obj)} {σ : L2.St} {H : Hp} {s : Shared} {h' : Heap} {tk : Nat} {m : Str → Option Value} (I : Inv X pins σ H s) (hn : s.heap.Ns X.env.locals m) (hn' : h'.Ns X.env.locals m) (kp : ∀ b o, b ≠ X.env.locals → s.heap.get? b = some o → h'.get? b = some o) :
    Inv X pins σ H { s with heap := h', toks := tk } := by
  refine I.step (g' := s.gens) (d' := s.drawn) (ch := []) (fun _ z => nomatch z) (fun b o hL _ _ e _ => kp b o hL e) (fun b o hL _ _ e _ => ⟨o.slots, kp b o hL e⟩) (fun _ _ _ _ n => n) (fun b o _ e => ?_) (fun _ _ e => e) (fun _ _ _ e => e) (fun _ ps e => ⟨#[], by simpa using e⟩) (fun m' hm => ?_) (fun b ob e => ?_) I.bare
  · by_cases hL : b = X.env.locals
    · obtain ⟨o', _, _, e', _⟩ := hn'
      exact ⟨o', by rw [hL]; exact e'⟩
    · exact ⟨o, kp b o hL e⟩
  · obtain ⟨o1, es1, ep1, a1, a2, a3, a4⟩ := hn
    obtain ⟨o2, es2, ep2, b1, b2, b3, b4⟩ := hm
    rw [a1] at b1
    cases b1
    rw [a2] at b2
    cases b2
    have : m' = m := funext fun x => (b4 x).symm.trans (a4 x)
    rw [this]
    exact hn'
  · have hf := I.free
    refine (I.hok b ob e).stay (fun c w' hc q => kp c w' (fun z => ?_) q) (fun _ q => q) fun _ _ q => q
    subst z
    rcases hc with hc | hc
    · rw [hc, e] at hf; cases hf
    · rw [hf] at hc; cases hc
/-- what stands in the heap besides the frame and the base -/
def rest (base h : Heap) (L : Addr) : List (Addr × Obj) := (List.range h.objs.size).filterMap fun b => if b = L then none else match base.get? b with
  | some _ => none
  | none => (match h.get? b with
    | some o => some (b, o)
    | none => none)
theorem rest_mem {base h : Heap} {L b : Addr} {o : Obj} (hL : b ≠ L) (hb : base.get? b = none) (h1 : h.get? b = some o) : (b, o) ∈ rest base h L := by
  unfold rest
  rw [List.mem_filterMap]
  refine ⟨b, List.mem_range.mpr (Heap.lt_size h1), ?_⟩
  rw [if_neg hL, hb, h1]
theorem rest_of {base h : Heap} {L : Addr} {p : Addr × Obj} (hp : p ∈ rest base h L) : h.get? p.1 = some p.2 ∧ p.1 ≠ L ∧ base.get? p.1 = none := by
  unfold rest at hp
  rw [List.mem_filterMap] at hp
  obtain ⟨b, _, e⟩ := hp
  split at e
  · cases e
  · rename_i hL
    split at e
    · cases e
    · rename_i hb
      split at e
      · rename_i o h1
        cases e
        exact ⟨h1, hL, hb⟩
      · cases e
/-- a reading: the least row by its first number, the first one of them -/
def kMinK (K : PySem.W.Frag) (T : List (Addr × Str)) (Q : VK) (v : V) (H1 : Hp) : Prop := LamX.Tabs T H1 ∧ ∃ (a : Addr) (vs : List V) (ks : Nat → Int), v = .ref a ∧ SqL K H1 a vs ∧ 0 < vs.length ∧
  (∀ i x, vs[i]? = some x → ∃ b xs, x = .ref b ∧ SqT K H1 b xs ∧ xs[0]? = some (.int (ks i))) ∧
  ∀ H2, LamX.ExtN H1 H2 → LamX.Tabs T H2 → ∀ i x, vs[i]? = some x → (∀ j, j < vs.length → ks i ≤ ks j ∧ (j < i → ks i < ks j)) → Q x H2
def tMinK (K : PySem.W.Frag) (T : List (Addr × Str)) (te : TE) : TE := fun σ H Q => te σ H (kMinK K T Q)
def oneK (k : V → Hp → Prop) : List V → Hp → Prop := fun vs H => match vs with
  | [v] => k v H
  | _ => False
theorem extN_sqL {K : PySem.W.Frag} {H H1 : Hp} {a : Addr} {xs : List V} (x : LamX.ExtN H H1) (h : SqL K H a xs) : SqL K H1 a xs := by
  rcases h with h | h
  · rcases h with h | ⟨o, h⟩
    · exact .inl (.inl (x a _ h fun _ z => by cases z))
    · exact .inl (.inr ⟨o, x a _ h fun _ z => by cases z⟩)
  · exact .inr h
theorem extN_sqT {K : PySem.W.Frag} {H H1 : Hp} {a : Addr} {xs : List V} (x : LamX.ExtN H H1) (h : SqT K H a xs) : SqT K H1 a xs := by
  rcases h with h | h
  · rcases h with h | ⟨o, h⟩
    · exact .inl (.inl (x a _ h fun _ z => by cases z))
    · exact .inl (.inr ⟨o, x a _ h fun _ z => by cases z⟩)
  · exact .inr h
section
variable {X : Cx}
theorem pe_minKey {T : List (Addr × Str)} {c P : Addr} {row : Str} {params : Arguments} {scope : Scope} {e : Expr} {te : TE} {p lpos kpos pos p1 p2 p3 : Pos} {jj : Nat} (hc : X.calm = true) (hg : Gl X "min") (hm : X.mg "min" = none) (ha : PE X e te)
    (TB : LamX.TabB X.base X.mg c P) (hcode : X.env.code = .ref c) (hmT : (P, X.env.qual ++ ("<lambda>" : Str)) ∈ T) (hu : ∀ p ∈ T, p.1 = P → p.2 = X.env.qual ++ ("<lambda>" : Str)) (hr : Room 1 X.A) (L : LamP row scope) (hdef : defaultsOf params X.env = ([], []))
    (hbind : ∀ (b : Addr) (q : Str) (cl : List (Str × Addr)) (pm cv ctv : Value), bindArgs (PySem.W.kla_fn "<lambda>" q params (.Subscript (.Name row p1) (.Constant (.int 0) jj p2) p3) scope cl pm cv ctv) ⟨[.ref b], []⟩ = pure [(row, .ref b)])
    (he0 : starEach [e] X.env = (false, eval e X.env) :: starEach [] X.env := by rfl) :
    PE X (.Call (.Name "min" p) [e] [⟨some "key", .Lambda params (.Subscript (.Name row p1) (.Constant (.int 0) jj p2) p3) scope lpos, kpos⟩] pos) (tMinK X.K T te) := by
  have he : backTo pos (starEach [e] X.env) = (false, eval e X.env) :: backTo pos (starEach [] X.env) := by rw [he0]; rfl
  have hpl : (backTo pos (starEach [e] X.env)).any (·.1) = false := by rw [he]; rfl
  refine ⟨fun pins s σ H Q I h => ?_⟩
  refine wpAny_Call_Name_kw (ld_blt I hg hm rfl ?_)
  refine PyProof.Rows.callWith_kw (thn ((pa_cons ha pa_nil he0).run pos pins s σ H (oneK (kMinK X.K T Q)) I h) fun us s1 ⟨vs, H1, I1, r1, q1⟩ => ?_) he hpl rfl rfl
  cases r1 with
  | nil => exact q1.elim
  | cons r t =>
    cases t with
    | cons _ _ => exact q1.elim
    | nil =>
      obtain ⟨T1, a, vs, ks, rfl, hs, hne, hks, hQ⟩ := q1
      cases r
      refine wpAny_evalAll_cons (wpAny_bind (LamX.lam_make2 I1 TB hcode hmT hu T1 hdef (fun y hy z => absurd z (L.nofree y hy)) fun f c' pm ctv H2 s2 I2 eN T2 hf hfn hfr hco => wpAny_bind (wpAny_standAt (wpAny_pure ?_))))
      refine wpAny_evalAll_nil ?_
      have hs2 := extN_sqL eN hs
      obtain ⟨its, rv, pl, hz⟩ := I2.list hs2
      obtain ⟨m, F2⟩ := I2.fr
      have kp : ∀ h, PyProof.Rows.Fr X.base X.env.locals h m → News X.base X.env.locals h (rest X.base s2.heap X.env.locals) → ∀ b o, b ≠ X.env.locals → s2.heap.get? b = some o → h.get? b = some o := fun h F N b o hb e => by
        cases eb : X.base.get? b with
        | some o' =>
          have := I2.bk b o' eb
          rw [e] at this
          cases this
          exact F.keep b o eb
        | none => exact (N (b, o) (rest_mem hb eb e)).1
      have neL : ∀ b o (its : Array Value) (n : Nat), s2.heap.get? b = some o → o.data = .seq its n → b ≠ X.env.locals := fun b o its n e1 e2 z => by
        obtain ⟨oL, es, ep, a1, a2, _⟩ := F2.ns
        rw [z, a1] at e1
        cases e1
        rw [a2] at e2
        cases e2
      have lens := rv.length
      have at_ : ∀ i v, its[i]? = some v → ∃ x, vs[i]? = some x ∧ RelV x v := fun i v hv => by
        have hi : i < vs.length := by rw [lens]; exact (List.getElem?_eq_some_iff.mp hv).1
        obtain ⟨w, e1, e2⟩ := rv.get (List.getElem?_eq_getElem hi)
        rw [hv] at e1
        cases e1
        exact ⟨_, List.getElem?_eq_getElem hi, e2⟩
      refine kmk_min (h₀ := X.base) (L := X.env.locals) (m := m) (news := rest X.base s2.heap X.env.locals) (vs := its) ks (I2.ok.hd hc) F2 (fun p hp => rest_of hp) (fun h F N => ?_) (by omega) (fun i v hv h tk own F' N' => ?_) fun i v h' tk' hv hb F' N' => ?_
      · obtain ⟨o, n, e, r1, r2, r3⟩ := pl
        have pl' : PlainL h a its.toArray := ⟨o, n, kp h F N a o (neL a o _ n e r3) e, r1, r2, r3⟩
        exact pl'.isList
      · have kp' := kp h F' fun p hp => N' p (List.mem_append_left _ hp)
        obtain ⟨x, hx, rx⟩ := at_ i v hv
        obtain ⟨b, xs, rfl, hq, h0⟩ := hks i x hx
        cases rx
        obtain ⟨its2, r2, tu, hz2⟩ := I2.tuple (extN_sqT eN hq)
        obtain ⟨w, ew, rw'⟩ := r2.get h0
        obtain ⟨t, rfl⟩ := rw'
        have l2 := r2.length
        have hcr : s2.heap.CodeRec (.ref c') (X.env.qual ++ ("<lambda>" : Str)) := by
          obtain ⟨⟨oc, vs', t', e1, e2, e3⟩, _, _⟩ := I2.hok c' _ hco
          exact ⟨c', oc, vs', t', rfl, e1, e2, e3⟩
        have cL : c' ≠ X.env.locals := fun z => by
          have := I2.free
          rw [← z, hco] at this
          cases this
        refine key_turn (its := its2) (k := ks i) (t := t) (by have := hr.dp; have e : X.A.in1.depth = X.A.depth := rfl; omega) (kp' f _ ?_ hf) L ?_ (by simpa using ew) (by omega) ?_ (I2.ok.mod.nolimit.keeps F'.keep) (hbind _ _ _ _ _ _) fun h2 tk2 hk => ?_
        · intro z
          obtain ⟨oL, es, ep, a1, a2, _⟩ := F2.ns
          rw [z, a1] at hf
          cases hf
          cases a2
        · obtain ⟨o, e, r1, n, r3⟩ := tu
          exact ⟨o, kp' b o (neL b o _ n e r3) e, r1, n, r3⟩
        · obtain ⟨c2, oc, vs', t', e0, e1, e2⟩ := hcr
          cases e0
          exact ⟨c', oc, vs', t', rfl, kp' c' oc cL e1, e2⟩
        · exact ⟨h2, tk2, t, rfl, rfl, ⟨F'.ns.keeps hk, fun b o e => hk _ _ (F'.keep b o e), F'.above⟩, fun p hp => ⟨hk _ _ (N' p hp).1, (N' p hp).2⟩⟩
      · obtain ⟨x, hx, rx⟩ := at_ i v hv
        exact ⟨x, H2, kept_but I2 F2.ns F'.ns (kp h' F' N'), rx, hQ H2 eN T2 i x hx fun j hj => hb j (by omega)⟩
end
/-! ### the data layer's rule -/
def fstI : D → Option Int
  | .tup (.int k :: _) => some k
  | _ => none
def fstsI : List D → Option (List Int)
  | [] => some []
  | d :: ds => match fstI d with
    | some k => (match fstsI ds with
      | some ks => some (k :: ks)
      | none => none)
    | none => none
/-- the first of the least -/
def pickK : Int → D → List Int → List D → D
  | _, d, [], _ => d
  | _, d, _, [] => d
  | k, d, j :: js, e :: es => if j < k then pickK j e js es else pickK k d js es
def dMinK0 : D → Option D
  | .lst (d :: ds) => match fstsI (d :: ds) with
    | some (k :: ks) => some (pickK k d ks ds)
    | _ => none
  | _ => none
theorem fsts_get : ∀ {ds : List D} {ks : List Int}, fstsI ds = some ks → ks.length = ds.length ∧ ∀ (i : Nat) (d : D), ds[i]? = some d → ∃ k, ks[i]? = some k ∧ fstI d = some k
  | [], _, h => by
    cases h
    exact ⟨rfl, fun i d e => by simp at e⟩
  | d :: ds, _, h => by
    unfold fstsI at h
    split at h
    · rename_i k hk
      split at h
      · rename_i ks hks
        cases h
        obtain ⟨h1, h2⟩ := fsts_get hks
        refine ⟨by simp [h1], fun i e he => ?_⟩
        cases i with
        | zero =>
          simp at he
          subst he
          exact ⟨k, rfl, hk⟩
        | succ i => exact h2 i e (by simpa using he)
      · cases h
    · cases h
/-- which one it is -/
theorem pickK_ok : ∀ (js : List Int) (es : List D) (k : Int) (d : D), js.length = es.length → (pickK k d js es = d ∧ ∀ j ∈ js, k ≤ j) ∨ ∃ (i : Nat) (m : Int), js[i]? = some m ∧ es[i]? = some (pickK k d js es) ∧ m < k ∧ (∀ j ∈ js, m ≤ j) ∧ ∀ (j : Nat) (x : Int), j < i → js[j]? = some x → m < x
  | [], es, k, d, _ => .inl ⟨by unfold pickK; rfl, fun _ h => nomatch h⟩
  | j :: js, [], k, d, h => by cases h
  | j :: js, e :: es, k, d, h => by
    have hl : js.length = es.length := by simpa using h
    unfold pickK
    split
    · rename_i hjk
      rcases pickK_ok js es j e hl with ⟨h1, h2⟩ | ⟨i, m, h1, h2, h3, h4, h5⟩
      · refine .inr ⟨0, j, rfl, by rw [h1]; rfl, hjk, fun x hx => ?_, fun _ _ hh => absurd hh (by omega)⟩
        rcases List.mem_cons.mp hx with z | z
        · omega
        · exact h2 x z
      · refine .inr ⟨i + 1, m, by simpa using h1, by simpa using h2, by omega, fun x hx => ?_, fun a x ha hx => ?_⟩
        · rcases List.mem_cons.mp hx with z | z
          · omega
          · exact h4 x z
        · cases a with
          | zero =>
            simp at hx
            omega
          | succ a => exact h5 a x (by omega) (by simpa using hx)
    · rename_i hjk
      rcases pickK_ok js es k d hl with ⟨h1, h2⟩ | ⟨i, m, h1, h2, h3, h4, h5⟩
      · refine .inl ⟨h1, fun x hx => ?_⟩
        rcases List.mem_cons.mp hx with z | z
        · omega
        · exact h2 x z
      · refine .inr ⟨i + 1, m, by simpa using h1, by simpa using h2, h3, fun x hx => ?_, fun a x ha hx => ?_⟩
        · rcases List.mem_cons.mp hx with z | z
          · omega
          · exact h4 x z
        · cases a with
          | zero =>
            simp at hx
            omega
          | succ a => exact h5 a x (by omega) (by simpa using hx)
theorem minK_ok {d : D} {x : D} (h : dMinK0 d = some x) : ∃ ds ks, d = .lst ds ∧ 0 < ds.length ∧ fstsI ds = some ks ∧ ∀ i, (i < ks.length ∧ ∀ j, j < ks.length → ks.getD i 0 ≤ ks.getD j 0 ∧ (j < i → ks.getD i 0 < ks.getD j 0)) → ds[i]? = some x := by
  unfold dMinK0 at h
  split at h
  · rename_i d0 ds
    split at h
    · rename_i k ks hk
      cases h
      have hl := (fsts_get hk).1
      have hl' : ks.length = ds.length := by simpa using hl
      refine ⟨d0 :: ds, k :: ks, rfl, by simp, hk, fun i ⟨hi, hb⟩ => ?_⟩
      rcases pickK_ok ks ds k d0 hl' with ⟨h1, h2⟩ | ⟨m, v, h1, h2, h3, h4, h5⟩
      · cases i with
        | zero => rw [h1]; rfl
        | succ i =>
          have b := (hb 0 (by simp)).2 (by omega)
          simp only [List.length_cons] at hi
          have hk2 : ks[i]? = some (ks.getD i 0) := by rw [List.getD_eq_getElem?_getD, List.getElem?_eq_getElem (by omega)]; rfl
          have := h2 _ (List.mem_of_getElem? hk2)
          simp at b
          simp at this
          omega
      · have hm : m < ks.length := (List.getElem?_eq_some_iff.mp h1).1
        have e0 : (k :: ks).getD (m + 1) 0 = v := by simp [List.getD_eq_getElem?_getD, h1]
        have b1 := hb (m + 1) (by simp; omega)
        rw [e0] at b1
        have hi2 : i = m + 1 := by
          rcases Nat.lt_trichotomy i (m + 1) with c | c | c
          · cases i with
            | zero =>
              have := b1.1
              simp at this
              omega
            | succ i =>
              have hk2 : ks[i]? = some ((k :: ks).getD (i + 1) 0) := by simp [List.getD_eq_getElem?_getD, List.getElem?_eq_getElem (show i < ks.length by omega)]
              have := h5 i _ (by omega) hk2
              have := b1.1
              omega
          · exact c
          · have b2 := b1.2 c
            cases i with
            | zero => omega
            | succ i =>
              simp only [List.length_cons] at hi
              have hk2 : ks[i]? = some ((k :: ks).getD (i + 1) 0) := by simp [List.getD_eq_getElem?_getD, List.getElem?_eq_getElem (show i < ks.length by omega)]
              have := h4 _ (List.mem_of_getElem? hk2)
              omega
        rw [hi2]
        simpa using h2
    · cases h
  · cases h
theorem d_minK {X : Cx} {W : Wd} {c P : Addr} {row : Str} {params : Arguments} {scope : Scope} {e : Expr} {fe : EX} {p lpos kpos pos p1 p2 p3 : Pos} {jj : Nat} (hg : Gl X "min") (hm : X.mg "min" = none) (ha : PD X W e fe)
    (TB : LamX.TabB X.base X.mg c P) (hcode : X.env.code = .ref c) (hT : W.tb = [(P, X.env.qual ++ ("<lambda>" : Str))]) (hr : Room 1 X.A) (L : LamP row scope) (hdef : defaultsOf params X.env = ([], []))
    (hbind : ∀ (b : Addr) (q : Str) (cl : List (Str × Addr)) (pm cv ctv : Value), bindArgs (PySem.W.kla_fn "<lambda>" q params (.Subscript (.Name row p1) (.Constant (.int 0) jj p2) p3) scope cl pm cv ctv) ⟨[.ref b], []⟩ = pure [(row, .ref b)])
    (hc : X.calm = true := by rfl) (he0 : starEach [e] X.env = (false, eval e X.env) :: starEach [] X.env := by rfl) :
    PD X W (.Call (.Name "min" p) [e] [⟨some "key", .Lambda params (.Subscript (.Name row p1) (.Constant (.int 0) jj p2) p3) scope lpos, kpos⟩] pos) (e1 dMinK0 fe) := by
  refine imp_E (pe_minKey (T := W.tb) hc hg hm ha TB hcode (by rw [hT]; exact List.mem_singleton.mpr rfl) (fun p hp _ => by rw [hT] at hp; rw [List.mem_singleton.mp hp]) hr L hdef hbind he0) ?_
  rintro σ H Q ⟨fr, F, ρ, n, r, n', R, e0, kk⟩
  rcases M.bind_any e0 with ⟨z, e1, rfl⟩ | ⟨d, n1, e1, h1⟩
  · refine ⟨fr, F, ρ, n, .error z, n', R, e1, ?_⟩
    exact kk
  refine ⟨fr, F, ρ, n, .ok d, n1, R, e1, fun F1 H1 v R1 s1 d1 => ?_⟩
  obtain ⟨x, q0⟩ := M.opt_any h1
  rw [q0] at h1
  obtain ⟨q1, q2⟩ := M.pure_any (a := x) h1
  subst q1
  subst q2
  obtain ⟨ds, ks, rfl, hne, hks, hx⟩ := minK_ok q0
  cases d1 with
  | lst b1 b2 =>
    rename_i a vs
    have hlen := b2.length
    obtain ⟨kl, kg⟩ := fsts_get hks
    refine ⟨R1.core.tabs, a, vs, fun i => ks.getD i 0, rfl, R1.core.sub.sqL (SqL.of b1), by omega, fun i u hu => ?_, fun H2 eN T2 i u hu hb => ?_⟩
    · obtain ⟨d, e2, e3⟩ := b2.get' hu
      obtain ⟨k, k1, k2⟩ := kg i d e2
      unfold fstI at k2
      split at k2
      · cases k2
        cases e3 with
        | tup c1 c2 =>
          cases c2 with
          | cons c3 c4 =>
            cases c3
            exact ⟨_, _, rfl, R1.core.sub.sqT c1, by simp [List.getD_eq_getElem?_getD, k1]⟩
      · cases k2
    · have hi : i < vs.length := (List.getElem?_eq_some_iff.mp hu).1
      obtain ⟨d, e2, e3⟩ := b2.get' hu
      have e4 := hx i ⟨by omega, fun j hj => hb j (by omega)⟩
      rw [e2] at e4
      cases e4
      exact kk F1 H2 u (R1.extN eN T2) s1 e3
end DL
end

section
set_option Elab.async false
set_option linter.all false
set_option autoImplicit false
set_option maxRecDepth 100000
set_option maxHeartbeats 1000000
/-! dicts with tuples as keys; an own dict lent to an expression; lists for oneself; deep in; index -/
namespace DL
open PySem PySem.Spec L2
/-! ### no dict within -/
mutual
def ndD : D → Bool
  | .tup xs => ndDs xs
  | .lst xs => ndDs xs
  | .dic _ _ => false
  | .dit _ _ => false
  | .obj _ _ vs => ndDs vs
  | .non => true
  | .bl _ => true
  | .int _ => true
  | .str _ => true
  | .drw => true
  | .scr => true
def ndDs : List D → Bool
  | [] => true
  | d :: ds => ndD d && ndDs ds
end
/-- the heap without a -/
def cutH (F : Hp) (a : Addr) : Hp := fun b => if b = a then none else F b
theorem cutH_ne {F : Hp} {a b : Addr} (h : b ≠ a) : cutH F a b = F b := if_neg h
theorem cutH_same {F : Hp} {a : Addr} : cutH F a a = none := if_pos rfl
def isDic (o : HO) : Prop := (∃ kvs, o = .dK kvs) ∨ ∃ kvs, o = .dT kvs
section
variable {K : PySem.W.Frag} {W : Wd} {dr : Option Addr} {F : Hp} {a : Addr} {o : HO}
theorem cut_get (ha : F a = some o) (hd : isDic o) {b : Addr} {u : HO} (h : F b = some u) (nu : ¬ isDic u) : cutH F a b = some u := by
  rw [cutH_ne]
  · exact h
  · intro z
    rw [z, ha] at h
    cases h
    exact nu hd
theorem cut_rd (ha : F a = some o) (hd : isDic o) {b : Addr} {u : HO} (h : Rd F b u) (nu : ¬ isDic u) : Rd (cutH F a) b u := by
  rcases h with h | ⟨x, h⟩
  · exact .inl (cut_get ha hd h nu)
  · refine .inr ⟨x, cut_get ha hd h ?_⟩
    rintro (⟨_, z⟩ | ⟨_, z⟩) <;> cases z
theorem nd_tup (xs : List V) : ¬ isDic (.tup xs) := by rintro (⟨_, z⟩ | ⟨_, z⟩) <;> cases z
theorem nd_lst (xs : List V) : ¬ isDic (.lst xs) := by rintro (⟨_, z⟩ | ⟨_, z⟩) <;> cases z
theorem nd_ins {c d : Addr} {xs} : ¬ isDic (.ins c d xs) := by rintro (⟨_, z⟩ | ⟨_, z⟩) <;> cases z
mutual
theorem den_cut (ha : F a = some o) (hd : isDic o) : ∀ {v : V} {d : D}, Den K W dr F v d → ndD d = true → Den K W dr (cutH F a) v d
  | _, _, .non, _ => .non
  | _, _, .bl b, _ => .bl b
  | _, _, .int b, _ => .int b
  | _, _, .str b, _ => .str b
  | _, _, .tup h r, e => .tup (h.imp (fun q => cut_rd ha hd q (nd_tup _)) id) (dens_cut ha hd r (by unfold ndD at e; exact e))
  | _, _, .lst h r, e => .lst (cut_get ha hd h (nd_lst _)) (dens_cut ha hd r (by unfold ndD at e; exact e))
  | _, _, .scr h, _ => .scr (h.imp (fun q => cut_rd ha hd q (nd_lst _)) id)
  | _, _, .dic _ _ _, e => by simp [ndD] at e
  | _, _, .dit _ _ _, e => by simp [ndD] at e
  | _, _, .obj l h r, e => .obj l (cut_get ha hd h nd_ins) (dens_cut ha hd r (by unfold ndD at e; exact e))
  | _, _, .drw h, _ => .drw h
theorem dens_cut (ha : F a = some o) (hd : isDic o) : ∀ {vs : List V} {ds : List D}, Dens K W dr F vs ds → ndDs ds = true → Dens K W dr (cutH F a) vs ds
  | _, _, .nil, _ => .nil
  | _, _, .cons h r, e => by
    unfold ndDs at e
    rw [Bool.and_eq_true] at e
    exact .cons (den_cut ha hd h e.1) (dens_cut ha hd r e.2)
end
end
/-- what the other slots may hold while a dict is lent -/
def ndIn : D → Bool
  | .lst ds => ndDs ds
  | .dic _ ds => ndDs ds
  | .dit _ ds => ndDs ds
  | .obj _ _ ds => ndDs ds
  | _ => false
def ndSl : Sl → Bool
  | .no => true
  | .val d => ndD d
  | .own d => ndIn d
theorem mden_cut {K : PySem.W.Frag} {W : Wd} {dr : Option Addr} {F H : Hp} {a b : Addr} {o : HO} {d : D} (ha : F a = some o) (hd : isDic o) (m : MDen K W dr F H b d) (e : ndIn d = true) : MDen K W dr (cutH F a) H b d := by
  cases d with
  | lst ds => obtain ⟨vs, q, r⟩ := m; exact ⟨vs, q, dens_cut ha hd r e⟩
  | dic ks ds => obtain ⟨vs, l, q, r⟩ := m; exact ⟨vs, l, q, dens_cut ha hd r e⟩
  | dit ks ds => obtain ⟨vs, l, q, r⟩ := m; exact ⟨vs, l, q, dens_cut ha hd r e⟩
  | obj c ks ds => obtain ⟨dx, vs, l, q, r⟩ := m; exact ⟨dx, vs, l, q, dens_cut ha hd r e⟩
  | non => exact m.elim
  | bl _ => exact m.elim
  | int _ => exact m.elim
  | str _ => exact m.elim
  | tup _ => exact m.elim
  | drw => exact m.elim
  | scr => exact m.elim
def dictD : D → Bool
  | .dic _ ds => ndDs ds
  | .dit _ ds => ndDs ds
  | _ => false
/-- the slots but the one at i hold no dict -/
def ndBut : Nat → List Sl → Bool
  | _, [] => true
  | 0, _ :: r => r.all ndSl
  | i + 1, s :: r => ndSl s && ndBut i r
theorem ndBut_get : ∀ {i j : Nat} {ρ : List Sl} {s : Sl}, ndBut i ρ = true → ρ[j]? = some s → j ≠ i → ndSl s = true
  | i, j, [], s, _, h, _ => by simp at h
  | 0, 0, _ :: _, _, _, _, n => absurd rfl n
  | 0, j + 1, x :: r, s, e, h, _ => by
    have e : r.all ndSl = true := e
    rw [List.all_eq_true] at e
    exact e s (List.mem_of_getElem? (by simpa using h))
  | i + 1, 0, x :: r, s, e, h, _ => by
    have e : (ndSl x && ndBut i r) = true := e
    rw [Bool.and_eq_true] at e
    simp at h
    subst h
    exact e.1
  | i + 1, j + 1, x :: r, s, e, h, n => by
    have e : (ndSl x && ndBut i r) = true := e
    rw [Bool.and_eq_true] at e
    exact ndBut_get (i := i) (j := j) e.2 (by simpa using h) (by omega)
/-- an own dict, lent to an expression that keeps nothing of it -/
def eLend (i : Nat) (f : EX) : EX := fun ρ n => match own? ρ i with
  | some d0 => if dictD d0 && ndBut i ρ then (match f (ρ.set i (.val d0)) n with
      | some (.ok d, n1) => if ndD d then some (.ok d, n1) else none
      | _ => none) else none
  | none => none
section
variable {X : Cx} {W : Wd}
theorem d_lend {i : Nat} {e : Expr} {f : EX} (h : PD X W e f) : PD X W e (eLend i f) := imp_E h fun σ H Q ⟨fr, F, ρ, n, r, n', R, e0, k⟩ => by
  unfold eLend at e0
  split at e0
  · rename_i d0 q
    split at e0
    · rename_i hc
      rw [Bool.and_eq_true] at hc
      obtain ⟨hdd, hnb⟩ := hc
      split at e0
      · rename_i d n1 ef
        split at e0
        · rename_i hnd
          cases e0
          have hi := own_some q
          obtain ⟨ad, s⟩ := R.slots
          obtain ⟨o1, o2, o3, o4, o5, o6⟩ := s.own i d0 hi
          have hO : isO d0 = false := by
            cases d0 <;> first | rfl | cases hdd
          have hx : fr.H0 (ad i) = none := by
            rcases o6 with z | z
            · rw [hO] at z; cases z.1
            · exact z.2
          obtain ⟨F1, s1, R1⟩ := R.freeze s hi hx
          have hlt : i < ρ.length := (List.getElem?_eq_some_iff.mp hi).1
          refine ⟨fr, F1, _, n, .ok d, n', R1, ef, fun F' H' v R' s' dv => ?_⟩
          -- the lent dict stands at ad i
          obtain ⟨ad', sl⟩ := R'.slots
          obtain ⟨w, w1, w2⟩ := sl.val i d0 (by simp [hlt])
          rw [o1] at w1
          injection w1 with w1
          injection w1 with w1
          subst w1
          obtain ⟨ad1, sl1⟩ := R1.slots
          obtain ⟨w', w1', w2'⟩ := sl1.val i d0 (by simp [hlt])
          rw [o1] at w1'
          injection w1' with w1'
          injection w1' with w1'
          subst w1'
          obtain ⟨o, ho⟩ := o5.there
          have hF1 : ∃ o, F1 (ad i) = some o ∧ isDic o := by
            cases d0 with
            | dic ks ds =>
              cases w2' with
              | dic l q1 q2 =>
                rcases q1 with q1 | ⟨x, q1⟩
                · exact ⟨_, q1, .inl ⟨_, rfl⟩⟩
                · obtain ⟨vs, l', e', r'⟩ := o5
                  have := R1.core.sub _ _ q1
                  rw [e'] at this
                  cases this
            | dit ks ds =>
              cases w2' with
              | dit l q1 q2 =>
                rcases q1 with q1 | ⟨x, q1⟩
                · exact ⟨_, q1, .inr ⟨_, rfl⟩⟩
                · obtain ⟨vs, l', e', r'⟩ := o5
                  have := R1.core.sub _ _ q1
                  rw [e'] at this
                  cases this
            | _ => cases hdd
          obtain ⟨o', hF1, hdo⟩ := hF1
          have hF' : F' (ad i) = some o' := s' _ _ hF1
          have c := R'.core
          have subF : Sub F (cutH F' (ad i)) := fun a u z => by
            rw [cutH_ne (fun y => by rw [y, o2] at z; cases z)]
            exact s' _ _ (s1 _ _ z)
          have core : Core X.K W fr (cutH F' (ad i)) H' n' := {
            sub := fun a u z => by
              unfold cutH at z
              split at z
              · cases z
              · exact c.sub _ _ z
            base := c.base
            f0 := R.core.f0.trans subF
            new := fun a u z z2 => by
              unfold cutH
              split
              · rfl
              · exact c.new a u z z2
            there := c.there
            draw := fun a z => by
              obtain ⟨z1, z2, z3⟩ := c.draw a z
              refine ⟨?_, z2, z3.imp (fun y => cut_rd hF' hdo y (nd_lst _)) id⟩
              unfold cutH
              split
              · rfl
              · exact z1
            ntF := fun a u z => by
              unfold cutH at z
              split at z
              · cases z
              · exact c.ntF a u z
            tabs := c.tabs }
          have mine : MDen X.K W fr.dr (cutH F' (ad i)) H' (ad i) d0 := by
            cases d0 with
            | dic ks ds =>
              cases w2 with
              | dic l q1 q2 =>
                rcases q1 with q1 | ⟨x, q1⟩
                · exact ⟨_, l, c.sub _ _ q1, dens_cut hF' hdo q2 hdd⟩
                · rw [hF'] at q1
                  cases q1
                  rcases hdo with ⟨_, z⟩ | ⟨_, z⟩ <;> cases z
            | dit ks ds =>
              cases w2 with
              | dit l q1 q2 =>
                rcases q1 with q1 | ⟨x, q1⟩
                · exact ⟨_, l, c.sub _ _ q1, dens_cut hF' hdo q2 hdd⟩
                · rw [hF'] at q1
                  cases q1
                  rcases hdo with ⟨_, z⟩ | ⟨_, z⟩ <;> cases z
            | _ => cases hdd
          have R2 : Rel X.K W fr (cutH F' (ad i)) H' σ ρ n' := by
            refine ⟨core, fun j => if j = i then ad i else ad' j, by have := sl.len; simpa using this, fun j e z => ?_, fun j e z => ?_, fun j l e e' z z' y => ?_⟩
            · have hj : j ≠ i := fun y => by rw [y, hi] at z; cases z
              obtain ⟨v', y1, y2⟩ := sl.val j e (by rw [List.getElem?_set_ne (Ne.symm hj)]; exact z)
              exact ⟨v', y1, den_cut hF' hdo y2 (ndBut_get hnb z hj)⟩
            · by_cases hj : j = i
              · subst hj
                rw [hi] at z
                cases z
                rw [if_pos rfl]
                exact ⟨o1, cutH_same, o3, o4, mine, o6⟩
              · rw [if_neg hj]
                obtain ⟨y1, y2, y3, y4, y5, y6⟩ := sl.own j e (by rw [List.getElem?_set_ne (Ne.symm hj)]; exact z)
                refine ⟨y1, ?_, y3, y4, mden_cut hF' hdo y5 (ndBut_get hnb z hj), y6⟩
                unfold cutH
                split
                · rfl
                · exact y2
            · have free : ∀ (j : Nat) (e : D), ρ[j]? = some (.own e) → j ≠ i → ad' j ≠ ad i := fun j e z hj y => by
                have := (sl.own j e (by rw [List.getElem?_set_ne (Ne.symm hj)]; exact z)).2.1
                rw [y, hF'] at this
                cases this
              by_cases hj : j = i
              · by_cases hl : l = i
                · omega
                · rw [if_pos hj, if_neg hl] at y
                  exact absurd y.symm (free l e' z' hl)
              · by_cases hl : l = i
                · rw [if_neg hj, if_pos hl] at y
                  exact absurd y (free j e z hj)
                · rw [if_neg hj, if_neg hl] at y
                  exact sl.inj j l e e' (by rw [List.getElem?_set_ne (Ne.symm hj)]; exact z) (by rw [List.getElem?_set_ne (Ne.symm hl)]; exact z') y
          exact k _ H' v R2 subF (den_cut hF' hdo dv hnd)
        · cases e0
      · cases e0
    · cases e0
  · cases e0
end
end DL
end

section
set_option Elab.async false
set_option linter.all false
set_option autoImplicit false
set_option maxRecDepth 100000
set_option maxHeartbeats 1000000
namespace DL
open PySem PySem.Spec L2
section
variable {X : Cx} {W : Wd} {a b : Expr} {fa fb : EX} {pos : Pos}
/-! ### a tuple for a key -/
def keysD : List D → Option (List Key)
  | [] => some []
  | d :: ds => match keyD d with
    | some k => (match keysD ds with
      | some ks => some (k :: ks)
      | none => none)
    | none => none
theorem keys_of {K : PySem.W.Frag} {dr : Option Addr} {F : Hp} : ∀ {vs : List V} {ds : List D} {ks : List Key}, Dens K W dr F vs ds → keysD ds = some ks → vs = ks.map kV
  | _, _, _, .nil, h => by cases h; rfl
  | _, _, _, .cons h1 h2, h => by
    unfold keysD at h
    split at h
    · rename_i k hk
      split at h
      · rename_i ks hks
        cases h
        rw [key_of h1 hk, keys_of h2 hks]
        rfl
      · cases h
    · cases h
def valT (x : D) (ys : List D) : Option D := match x with
  | .dit ks ds => if ys.length ≤ 8 then (match keysD ys with
    | some k => valD ks ds k
    | none => none) else none
  | _ => none
/-- a[k1, k2] of a dict with tuples as keys -/
def eIxT (fa : EX) (fs : EXs) : EX := fun ρ => M.bind (fa ρ) fun x => M.bind (fs ρ) fun ys => M.opt (valT x ys)
theorem d_ixT2 {es : List Expr} {fs : EXs} {kt} {p2 : Pos} (hu : X.A.units + 64 < cLine) (ha : PD X W a fa) (hb : PDs X W es fs) (hs : PlainIx (.Tuple es kt p2) := by exact fun _ _ => rfl) : PD X W (.Subscript a (.Tuple es kt p2) pos) (eIxT fa fs) :=
  imp_E (pe_ix (ix_dict (by omega)) ha (pe_tup hb) hs) fun σ H Q ⟨fr, F, ρ, n, r, n', R, e, k⟩ => by
    rcases M.bind_any e with ⟨z, e1, rfl⟩ | ⟨x, n1, e1, h⟩
    · exact ⟨fr, F, ρ, n, .error z, n', R, e1, k⟩
    refine ⟨fr, F, ρ, n, .ok x, n1, R, e1, fun F1 H1 v R1 s1 d1 => ?_⟩
    rcases M.bind_any h with ⟨z, e2, rfl⟩ | ⟨ys, n2, e2, h⟩
    · exact ⟨fr, F1, ρ, n1, .error z, n', R1, e2, KX.mono k s1⟩
    refine ⟨fr, F1, ρ, n1, .ok ys, n2, R1, e2, fun F2 H2 vs R2 s2 d2 => ?_⟩
    rcases r with z | d
    · exact (M.opt_err h).elim
    obtain ⟨e4, e5⟩ := M.opt_ok h
    subst e5
    have d3 := d1.mono (dr' := fr.dr) s2 fun _ z => z
    unfold valT at e4
    split at e4
    · rename_i ks ds
      split at e4
      · rename_i hl
        split at e4
        · rename_i key hk
          have hv := keys_of d2 hk
          cases d3 with
          | dit l h1 h2 =>
            obtain ⟨w, q1, q2⟩ := val_zip l h2 e4
            refine ⟨?_, fun p hp => ?_⟩
            · rw [d2.length]
              exact Nat.le_trans hl (by show 8 ≤ sizeLine; decide)
            · have s3 : Sub F2 (upd F2 p (.tup vs)) := (Sub.refl F2).new (R2.core.noF hp)
              have R3 := R2.fresh (o := .tup vs) hp
              refine ⟨_, w, rfl, .inr ⟨_, key, p, R3.core.sub.rd (s3.rd h1), rfl, by rw [upd_same, hv], q1.symm⟩, k _ _ w R3 ((s1.trans s2).trans s3) (q2.mono s3 fun _ z => z)⟩
        · cases e4
      · cases e4
    · cases e4
def dPutT (ys : List D) (d : D) : D → Option D
  | .dit ks ds => (match keysD ys with
    | some k => if ks.length < sizeLine ∧ ys.length ≤ 8 then some (.dit (dkKs ks k) (dkDs ks ds k d)) else none
    | none => none)
  | _ => none
/-- x[k1, k2] = e, x one's own -/
def sPutT (i : Nat) (fs : EXs) (fv : EX) : SX := fun ρ => M.bind (fv ρ) fun d => M.bind (M.opt (own? ρ i)) fun _ => M.bind (fs ρ) fun ys => M.bind (M.opt ((own? ρ i).bind (dPutT ys d))) fun o => M.pure (.nx (ρ.set i (.own o)))
theorem S_dputT {i : Nat} {o value : Expr} {es : List Expr} {fs : EXs} {fv : EX} {kt} {p2 p3 : Pos} (hu : X.A.units + 64 < cLine) (ho : PE X o (tVar i)) (hk : PDs X W es fs) (hv : PD X W value fv) (hs : swapsWith value (some (.Subscript o (.Tuple es kt p3) p2)) pos.line X.env = pure false := by rfl) :
    PDS X W (.Assign [.Subscript o (.Tuple es kt p3) p2] value pos) (sPutT i fs fv) := imp_S (ps_dput (by omega) ho (pe_tup hk) hv hs) fun E σ H ⟨fr, F, ρ, n, r, n', R, e, k⟩ => by
  rcases M.bind_any e with ⟨z, e1, rfl⟩ | ⟨d, n1, e1, h0⟩
  · exact ⟨fr, F, ρ, n, .error z, n', R, e1, KS.x k⟩
  rcases M.bind_any h0 with ⟨z, e1, rfl⟩ | ⟨od0, n1', e0, h1⟩
  · exact (M.opt_err e1).elim
  obtain ⟨q0, q1⟩ := M.opt_ok e0
  subst q1
  refine ⟨fr, F, ρ, n, .ok d, _, R, e1, fun F1 H1 v R1 s1 d1 => ?_⟩
  obtain ⟨ad0, s0⟩ := R1.slots
  obtain ⟨z1, _⟩ := s0.own i _ (own_some q0)
  refine ⟨_, z1, ?_⟩
  rcases M.bind_any h1 with ⟨z, e2, rfl⟩ | ⟨ys, n2, e2, h2⟩
  · exact ⟨fr, F1, ρ, _, .error z, n', R1, e2, KX.mono (KS.x k) s1⟩
  refine ⟨fr, F1, ρ, _, .ok ys, n2, R1, e2, fun F2 H2 vs R2 s2 d2 => ?_⟩
  rcases M.bind_any h2 with ⟨z, e3, rfl⟩ | ⟨dd, n3, e3, h3⟩
  · exact (M.opt_err e3).elim
  obtain ⟨e4, e5⟩ := M.opt_ok e3
  obtain ⟨e6, e7⟩ := M.pure_any h3
  subst e5 e6 e7
  cases q : own? ρ i with
  | none => rw [q] at e4; cases e4
  | some od =>
    rw [q] at e4
    have e4 : dPutT ys d od = some dd := e4
    have hi := own_some q
    unfold dPutT at e4
    split at e4
    · rename_i ks ds
      split at e4
      · rename_i key hk
        split at e4
        · rename_i hl
          cases e4
          have hv := keys_of d2 hk
          refine ⟨?_, fun p hp => ?_⟩
          · rw [d2.length]
            exact Nat.le_trans hl.2 (by show 8 ≤ sizeLine; decide)
          · have s3 : Sub F2 (upd F2 p (.tup vs)) := (Sub.refl F2).new (R2.core.noF hp)
            have R3 := R2.fresh (o := .tup vs) hp
            obtain ⟨ad, s⟩ := R3.slots
            obtain ⟨a1, a2, a3, a4, ⟨us, a5, a6, a7⟩, a8⟩ := s.own i _ hi
            have ea : ad i = ad0 i := by rw [a1] at z1; injection z1 with z1; injection z1 with z1; injection z1
            have d1' := (d1.mono (dr' := fr.dr) s2 fun _ z => z).mono (dr' := fr.dr) s3 fun _ z => z
            refine ⟨ad i, _, by rw [ea], .inr ⟨_, key, p, a6, rfl, by rw [upd_same, hv], by rw [List.length_zip, a5, Nat.min_self, ← a5]; exact hl.1, rfl⟩, ?_⟩
            rw [put_zip a5]
            exact k _ _ _ (R3.change s hi ⟨_, put_len a5, upd_same, dkDs_dens d1' a7⟩ rfl) ((s1.trans s2).trans s3)
        · cases e4
      · cases e4
    · cases e4
/-- x, y = {}, {} -/
def sOwn2 (i j : Nat) (d e : D) : SX := fun ρ => M.pure (.nx ((ρ.set i (.own d)).set j (.own e)))
theorem S_dit2 {i j : Nat} {x y : Str} {px py pt p1 p2 : Pos} {kt k2 pt2} (hc : X.calm = true) (hN : X.N.Nodup) (hi : X.N[i]? = some x) (hj : X.N[j]? = some y) (hij : i ≠ j) (hx : X.env.scope.names.lookup x = some .local) (hy : X.env.scope.names.lookup y = some .local)
    (hw : swappedStores [.Tuple [.Name x px, .Name y py] kt pt] (.Tuple [.Dict [] [] p1, .Dict [] [] p2] k2 pt2) X.env = pure (some [x, y])) (hs : swapsWithSole [.Tuple [.Name x px, .Name y py] kt pt] (.Tuple [.Dict [] [] p1, .Dict [] [] p2] k2 pt2) pos.line X.env = pure false := by rfl) :
    PDS X W (.Assign [.Tuple [.Name x px, .Name y py] kt pt] (.Tuple [.Dict [] [] p1, .Dict [] [] p2] k2 pt2) pos) (sOwn2 i j (.dit [] []) (.dit [] [])) := imp_S (ps_par hc hN hi hj hij hx hy (pa_cons pe_dnewT (pa_cons pe_dnewT pa_nil)) hw hs) fun E σ H ⟨fr, F, ρ, n, r, n', R, e, k⟩ => by
  rcases r with z | o
  · exact (M.pure_err e).elim
  obtain ⟨b1, b2⟩ := M.pure_ok e
  subst b1 b2
  intro p hp p' hp'
  refine ⟨_, _, rfl, ?_⟩
  have R1 := R.setOwn (i := i) hp rfl (d := .dit [] []) ⟨[], rfl, upd_same, .nil⟩
  exact k F _ _ (R1.setOwn (i := j) hp' rfl ⟨[], rfl, upd_same, .nil⟩) (Sub.refl _)
end
end DL
end

section
set_option Elab.async false
set_option linter.all false
set_option autoImplicit false
set_option maxRecDepth 100000
set_option maxHeartbeats 1000000
/-! lists of one's own out of comprehensions and sums; deep in; index -/
namespace DL
open PySem PySem.Spec L2
/-- an object of one's own is left out of the heap -/
theorem Rel.dropH {K : PySem.W.Frag} {W : Wd} {fr : Fr} {F H : Hp} {σ : St} {ρ : Env} {n : Int} (r : Rel K W fr F H σ ρ n) {p : Addr} {xs : List V} (h0 : H p = some (.lst xs)) (h1 : F p = none) (h2 : fr.H0 p = none) (h3 : fr.dr ≠ some p) (h4 : NoOwn p σ ρ) : Rel K W fr F (cutH H p) σ ρ n := by
  obtain ⟨ad, s⟩ := r.slots
  have c := r.core
  have kp : ∀ a u, a ≠ p → H a = some u → cutH H p a = some u := fun a u ne q => by rw [cutH_ne ne]; exact q
  refine ⟨?_, ad, s.len, s.val, fun j e q => ?_, s.inj⟩
  · exact {
      sub := fun a u q => kp a u (ne_of_none q h1) (c.sub _ _ q)
      base := fun a u q q2 q3 => kp a u (ne_of_none q h2) (c.base a u q q2 q3)
      f0 := c.f0
      new := c.new
      there := fun a u q => by
        obtain ⟨o', e, nt⟩ := c.there a u q
        exact ⟨o', kp a o' (ne_of_none q h2) e, nt⟩
      draw := fun a e => by
        obtain ⟨q1, q2, q3⟩ := c.draw a e
        have ne : a ≠ p := fun z => h3 (by rw [← z]; exact e)
        exact ⟨q1, kp a _ ne q2, q3⟩
      ntF := c.ntF
      tabs := tabs_keep c.tabs fun a u q sd => by
        refine kp a u (fun z => ?_) q
        subst z
        rw [h0] at q
        cases q
        rcases sd with ⟨_, z⟩ | ⟨_, z⟩ <;> cases z }
  · obtain ⟨q1, q2, q3, q4, q5, q6⟩ := s.own j e q
    have ne : ad j ≠ p := fun z => h4 j e q (by rw [q1, z])
    exact ⟨q1, q2, q3, q4, q5.mono (Sub.refl _) (fun u z => kp _ u ne z), q6⟩
section
variable {X : Cx} {W : Wd}
def nComp (vs : List Nat) (g : GX) (it : IX) (t : TX) (f : EX) : EXs := fun ρ => M.bind (it ρ) fun ds => M.bind (M.calm (compD (compB vs g t f ρ) ds)) fun ys => M.opt (if gz ys then some ys else none)
theorem d_tLcN {vs : List Nat} {tg : TG} {g : GX} {is : List Nat} {it : IX} {t : TX} {f : EX} (hg : GOk X.K W tg g is) (hv : ∀ i ∈ is, i ∈ vs) {σ : St} {H : Hp} {Q : VK} (h : tDN X W (nComp vs g it t f) σ H Q) : tLc (tI X W it) tg (tTk X.K W t) (tDk X.K W f) vs σ H Q := by
  obtain ⟨fr, F, ρ, n, r, n', R, e, k⟩ := h
  rcases r with z | d
  · rcases M.bind_err e with e1 | ⟨ds, n1, e1, h⟩
    · exact ⟨fr, F, ρ, n, .error z, n', R, e1, k⟩
    · rcases M.bind_err h with h | ⟨_, _, _, h⟩
      · exact (M.calm_err h).elim
      · exact (M.opt_err h).elim
  obtain ⟨ds, n1, e1, ha⟩ := M.bind_ok e
  obtain ⟨zs, n2, e2, hb⟩ := M.bind_ok ha
  obtain ⟨e3, e4⟩ := M.opt_ok hb
  replace e2 := M.calm_ok e2
  obtain ⟨e5, hz⟩ : zs = d ∧ zs.length ≤ sizeLine := by
    split at e3
    · rename_i q
      cases e3
      exact ⟨rfl, of_decide_eq_true q⟩
    · cases e3
  clear ha hb e3
  subst e4 e5
  refine ⟨fr, F, ρ, n, .ok ds, n1, R, e1, fun F1 H1 J R1 s1 ok => fun p hp => ?_⟩
  refine ⟨fun i m H' => m = ds.length - i ∧ i ≤ ds.length ∧ ∃ F' n'' acc dacc ys, Rel X.K W fr F' H' σ ρ n'' ∧ Sub F1 F' ∧ F' p = none ∧ H' p = some (.lst acc) ∧ Dens X.K W fr.dr F' acc dacc ∧ compD (compB vs g t f ρ) (ds.drop i) n'' = some (.ok ys, n') ∧ zs = dacc ++ ys,
    ⟨ds.length, by simp, Nat.zero_le _, F1, n1, [], [], zs, ?_, Sub.refl _, R1.core.noF hp, upd_same, .nil, e2, rfl⟩, ?_⟩
  · exact R1.other (R1.core.noF hp) (R1.core.noH0 hp) (R1.core.ndr hp) (R1.noOwn hp) (sd_no hp)
  have hH0 := R1.core.noH0 hp
  have hdr := R1.core.ndr hp
  have hno := R1.noOwn hp
  rintro i m H2 ⟨rfl, hi, F2, m2, acc, dacc, ys, R2, s2, f2, a2, d2, c2, q2⟩
  have RI : Rel X.K W (fr.at F2 H2) F2 H2 (wipe σ vs) (hide (wipeD ρ vs)) m2 := (R2.wipe vs).inner
  by_cases hlt : i < ds.length
  · refine .inr ?_
    rw [List.drop_eq_getElem_cons hlt] at c2
    obtain ⟨y, n3, c3, hc⟩ := M.bind_ok c2
    obtain ⟨yr, n4, c4, hd⟩ := M.bind_ok hc
    obtain ⟨c5, c6⟩ := M.pure_ok hd
    clear hc hd
    subst c6
    obtain ⟨ρ1, n5, b1, hb1⟩ := M.bind_ok c3
    obtain ⟨b2, b3⟩ := M.opt_ok b1
    obtain ⟨b, n6, b4, hb2⟩ := M.bind_ok hb1
    clear hb1 b1 c3
    subst b3
    obtain ⟨g1, g2⟩ := (ok (fr.at F2 H2) F2 H2 _ _ _ i rfl RI s2).1 ds[i] (by simp [hlt])
    refine ⟨g1, fun H' => ∃ F' n'' acc dacc ys, Rel X.K W fr F' H' σ ρ n'' ∧ Sub F1 F' ∧ F' p = none ∧ H' p = some (.lst acc) ∧ Dens X.K W fr.dr F' acc dacc ∧ compD (compB vs g t f ρ) (ds.drop (i + 1)) n'' = some (.ok ys, _) ∧ zs = dacc ++ ys, fun H' q => ⟨_, by omega, rfl, hlt, q⟩, fun x H' yl => ?_⟩
    obtain ⟨F3, R3, s3, d3⟩ := g2 x H' yl
    refine hg (fr.at F2 H2) F3 H' _ _ ρ1 _ x _ _ R3 d3 b2 fun σ3 R4 w4 => ⟨(w4 vs hv).trans (wipe_wipe σ vs), ?_⟩
    refine ⟨fr.at F2 H2, F3, ρ1, _, b, n6, R4, b4, fun F5 H5 R5 s5 => ?_⟩
    cases b with
    | true =>
      rw [if_pos rfl]
      obtain ⟨z, n7, b5, hb3⟩ := M.bind_ok hb2
      obtain ⟨b6, b7⟩ := M.pure_ok hb3
      clear hb2 hb3
      subst b6 b7
      refine ⟨fr.at F2 H2, F5, ρ1, n6, z, _, R5, b5, fun F6 H6 v R6 s6 d6 => ?_⟩
      have a6 : H6 p = some (.lst acc) := R6.core.base p _ (mask_of a2) hdr fun z => z
      have f6 : F6 p = none := R6.core.new p _ (mask_of a2) f2
      have s26 : Sub F2 F6 := R6.core.f0
      refine ⟨acc, a6, ?_, F6, _, acc ++ [v], dacc ++ [z], yr, (R2.back R6.core).other f6 hH0 hdr hno (sd_of a6), s2.trans s26, f6, upd_same, (d2.mono s26 fun _ z => z).append (.cons d6 .nil), c4, ?_⟩
      · have l1 := d2.length
        have l2 : zs.length = dacc.length + ys.length := by rw [q2, List.length_append]
        have l3 : ys.length = yr.length + 1 := by rw [← c5]; simp
        omega
      · rw [q2, ← c5]; simp
    | false =>
      rw [if_neg Bool.false_ne_true]
      obtain ⟨b6, b7⟩ := M.pure_ok hb2
      clear hb2
      subst b6 b7
      have a6 : H5 p = some (.lst acc) := R5.core.base p _ (mask_of a2) hdr fun z => z
      have f6 : F5 p = none := R5.core.new p _ (mask_of a2) f2
      have s26 : Sub F2 F5 := R5.core.f0
      exact ⟨F5, _, acc, dacc, yr, R2.back R5.core, s2.trans s26, f6, a6, d2.mono s26 fun _ z => z, c4, by rw [q2, ← c5]⟩
  · have ei : i = ds.length := by omega
    refine .inl ⟨(ok (fr.at F2 H2) F2 H2 _ _ _ i rfl RI s2).2 ei, ?_⟩
    rw [ei, List.drop_length] at c2
    obtain ⟨a1, a3⟩ := M.pure_ok c2
    subst a1 a3
    have R7 := R2.dropH a2 f2 hH0 hdr hno
    have q3 : zs = dacc := by rw [q2, List.append_nil]
    have ez : upd (cutH H2 p) p (.lst acc) = H2 := funext fun b => by
      by_cases hb : b = p
      · rw [hb, upd_same, a2]
      · rw [upd_ne hb, cutH_ne hb]
    have := k F2 (cutH H2 p) acc R7 (s1.trans s2) (by rw [q3]; exact d2) p cutH_same
    rw [ez] at this
    exact this
theorem n_comp {vs : List Nat} {elt tg iter : Expr} {ifs : List Expr} {scope : Scope} {own : List (Str × Nat)} {pos : Pos} {t : TG} {g : GX} {is : List Nat} {it : IX} {tt : TX} {f : EX} (hc : X.calm = true) (hN : X.N.Nodup) (hi : PDI X W tg iter it) (ok : BlkOk X.N X.env.scope scope own)
    (hg : ∀ (s : Shared) (H : Hp) (C : Addr) (cl : List (Str × Addr)) (fp : List Addr), PG (X.blk s H scope (compEnvC scope cl C X.env) fp) tg t) (hq : GOk X.K W t g is) (hv : ∀ i ∈ is, i ∈ vs)
    (ht : ∀ (s : Shared) (H : Hp) (C : Addr) (cl : List (Str × Addr)) (fp : List Addr), PTs (X.blk s H scope (compEnvC scope cl C X.env) fp) ifs (tT (X.blk s H scope (compEnvC scope cl C X.env) fp) W tt))
    (he : ∀ (s : Shared) (H : Hp) (C : Addr) (cl : List (Str × Addr)) (fp : List Addr), PD (X.blk s H scope (compEnvC scope cl C X.env) fp) W elt f) (hs : ∀ x, foldedSetIterable iter X.env x = pure x := by intro _; rfl) (hvs : own.map (·.2) = vs := by rfl) :
    PE X (.ListComp elt [⟨tg, iter, ifs, 0⟩] scope pos) (tDN X W (nComp vs g it tt f)) := by
  subst hvs
  exact imp_E (pe_lc (tt := tTk X.K W tt) (te := tDk X.K W f) hc hN hi ok hg (fun s H C cl fp => tsk (ht s H C cl fp)) (fun s H C cl fp => dk (he s H C cl fp)) hs) fun _ _ _ h => d_tLcN hq hv h
theorem S_ownComp {vs : List Nat} {i : Nat} {y : Str} {py : Pos} {elt tg iter : Expr} {ifs : List Expr} {scope : Scope} {own : List (Str × Nat)} {pos spos : Pos} {t : TG} {g : GX} {is : List Nat} {it : IX} {tt : TX} {f : EX} (hc : X.calm = true) (hN : X.N.Nodup) (hy : X.N[i]? = some y) (hyl : X.env.scope.names.lookup y = some .local)
    (hsw : swapsWith (.ListComp elt [⟨tg, iter, ifs, 0⟩] scope pos) (some (.Name y py)) spos.line X.env = pure true) (hi : PDI X W tg iter it) (ok : BlkOk X.N X.env.scope scope own)
    (hg : ∀ (s : Shared) (H : Hp) (C : Addr) (cl : List (Str × Addr)) (fp : List Addr), PG (X.blk s H scope (compEnvC scope cl C X.env) fp) tg t) (hq : GOk X.K W t g is) (hv : ∀ i ∈ is, i ∈ vs)
    (ht : ∀ (s : Shared) (H : Hp) (C : Addr) (cl : List (Str × Addr)) (fp : List Addr), PTs (X.blk s H scope (compEnvC scope cl C X.env) fp) ifs (tT (X.blk s H scope (compEnvC scope cl C X.env) fp) W tt))
    (he : ∀ (s : Shared) (H : Hp) (C : Addr) (cl : List (Str × Addr)) (fp : List Addr), PD (X.blk s H scope (compEnvC scope cl C X.env) fp) W elt f) (hs : ∀ x, foldedSetIterable iter X.env x = pure x := by intro _; rfl) (hvs : own.map (·.2) = vs := by rfl) :
    PDS X W (.Assign [.Name y py] (.ListComp elt [⟨tg, iter, ifs, 0⟩] scope pos) spos) (sOwnN i (nComp vs g it tt f)) := by
  subst hvs
  refine imp_S (ps_setLc (tt := tTk X.K W tt) (te := tDk X.K W f) hc hN hy hyl hsw hi ok hg (fun s H C cl fp => tsk (ht s H C cl fp)) (fun s H C cl fp => dk (he s H C cl fp)) hs) fun E σ H ⟨fr, F, ρ, n, r, n', R, e, k⟩ => ?_
  rcases M.bind_any e with ⟨z, e1, rfl⟩ | ⟨ds, n1, e1, h⟩
  · exact d_tLcN hq hv ⟨fr, F, ρ, n, .error z, n', R, e1, KS.x k⟩
  obtain ⟨q1, q2⟩ := M.pure_any h
  subst q1 q2
  exact d_tLcN hq hv ⟨fr, F, ρ, n, .ok ds, _, R, e1, fun F1 H1 vs R1 s1 d1 p hp => k F1 _ _ (R1.setOwn hp rfl ⟨vs, upd_same, d1⟩) s1⟩
/-- a + b of lists -/
def catL (x y : D) : Option (List D) := match x, y with
  | .lst xs, .lst ys => if gz (xs ++ ys) then some (xs ++ ys) else none
  | _, _ => none
def nAdd (fa fb : EX) : EXs := fun ρ => M.bind (fa ρ) fun x => M.bind (fb ρ) fun y => M.opt (catL x y)
theorem n_add {a b : Expr} {fa fb : EX} {pos : Pos} (ha : PD X W a fa) (hb : PD X W b fb) : PE X (.BinOp a .Add b pos) (tDN X W (nAdd fa fb)) := imp_E (pe_op op_cat ha hb) fun σ H Q ⟨fr, F, ρ, n, r, n', R, e, k⟩ => by
  rcases M.bind_any e with ⟨z, e1, rfl⟩ | ⟨x, n1, e1, h⟩
  · exact ⟨fr, F, ρ, n, .error z, n', R, e1, k⟩
  refine ⟨fr, F, ρ, n, .ok x, n1, R, e1, fun F1 H1 v R1 s1 d1 => ?_⟩
  rcases M.bind_any h with ⟨z, e2, rfl⟩ | ⟨y, n2, e2, h⟩
  · exact ⟨fr, F1, ρ, n1, .error z, n', R1, e2, KX.mono k s1⟩
  refine ⟨fr, F1, ρ, n1, .ok y, n2, R1, e2, fun F2 H2 w R2 s2 d2 => ?_⟩
  rcases r with z | d
  · exact (M.opt_err h).elim
  obtain ⟨e4, e5⟩ := M.opt_ok h
  subst e5
  have d3 := d1.mono (dr' := fr.dr) s2 fun _ z => z
  unfold catL at e4
  split at e4
  · split at e4
    · rename_i hz
      cases e4
      cases d3 with
      | lst h1 h2 =>
        cases d2 with
        | lst h3 h4 =>
          refine ⟨_, _, _, _, rfl, rfl, R2.core.sub _ _ h1, R2.core.sub _ _ h3, ?_, fun p hp => k F2 H2 _ R2 (s1.trans s2) (h2.append h4) p hp⟩
          have := of_decide_eq_true hz
          rw [List.length_append] at this
          rw [h2.length, h4.length]
          exact this
    · cases e4
  · cases e4
/-! ### in, of lists of anything -/
def inP (x y : D) : Option Bool := match toPy x, y with
  | some p, .lst ys => (match toPys ys with
    | some ps => if SeqAt.shaped p && SeqAt.shaped (.list ps) then some (ps.any fun z => PyData.eqv z p) else none
    | none => none)
  | _, _ => none
def dInD (x y : D) : Option D := match inP x y with
  | some b => some (.bl b)
  | none => none
def dNiD (x y : D) : Option D := match inP x y with
  | some b => some (.bl (!b))
  | none => none
theorem inP_ok {x y : D} {b : Bool} (h : inP x y = some b) : ∃ p ys ps, toPy x = some p ∧ y = .lst ys ∧ toPys ys = some ps ∧ SeqAt.shaped p = true ∧ SeqAt.shaped (.list ps) = true ∧ b = ps.any fun z => PyData.eqv z p := by
  unfold inP at h
  split at h
  · rename_i p ys hp
    split at h
    · rename_i ps hps
      split at h
      · rename_i hs
        rw [Bool.and_eq_true] at hs
        cases h
        exact ⟨p, ys, ps, hp, rfl, hps, hs.1, hs.2, rfl⟩
      · cases h
    · cases h
  · cases h
theorem q_inD {K : PySem.W.Frag} : Op2 K W (rInD K) dInD := by
  intro fr F H σ ρ n x y d v u Q R dx dy h k
  unfold dInD at h
  split at h
  · cases h
    obtain ⟨p, ys, ps, h1, rfl, h3, h4, h5, rfl⟩ := inP_ok ‹_›
    cases dy with
    | lst q1 q2 => exact ⟨p, ps, dp_of R.core.sub dx h1, .lst (SqL.of (R.core.sub _ _ q1)) (dps_of R.core.sub q2 h3), h4, h5, k F H _ R (Sub.refl _) (.bl _)⟩
  · cases h
theorem q_niD {K : PySem.W.Frag} : Op2 K W (rNotInD K) dNiD := by
  intro fr F H σ ρ n x y d v u Q R dx dy h k
  unfold dNiD at h
  split at h
  · cases h
    obtain ⟨p, ys, ps, h1, rfl, h3, h4, h5, rfl⟩ := inP_ok ‹_›
    cases dy with
    | lst q1 q2 => exact ⟨p, ps, dp_of R.core.sub dx h1, .lst (SqL.of (R.core.sub _ _ q1)) (dps_of R.core.sub q2 h3), h4, h5, k F H _ R (Sub.refl _) (.bl _)⟩
  · cases h
theorem Room.u65 {k : Nat} {A : Around} (r : Room k A) : A.units + 65 < cLine := by have := r.un; omega
theorem d_inD {a b : Expr} {fa fb : EX} {pos : Pos} (hu : X.A.units + 65 < cLine) (ha : PD X W a fa) (hb : PD X W b fb) (hm : behindInMarks .In b = false := by with_unfolding_all rfl) : PD X W (.Compare a [.In] [b] pos) (e2 dInD fa fb) := d_cmp (op_inD hu) q_inD ha hb hm
theorem d_niD {a b : Expr} {fa fb : EX} {pos : Pos} (hu : X.A.units + 65 < cLine) (ha : PD X W a fa) (hb : PD X W b fb) (hm : behindInMarks .NotIn b = false := by with_unfolding_all rfl) : PD X W (.Compare a [.NotIn] [b] pos) (e2 dNiD fa fb) := d_cmp (op_notInD hu) q_niD ha hb hm
theorem t_inD {a b : Expr} {fa fb : EX} {pos : Pos} (hu : X.A.units + 65 < cLine) (ha : PD X W a fa) (hb : PD X W b fb) (hm : behindInMarks .In b = false := by with_unfolding_all rfl) : PDT X W (.Compare a [.In] [b] pos) (tB (e2 dInD fa fb)) := t_cmp (op_inD hu) q_inD ha hb hm
theorem t_niD {a b : Expr} {fa fb : EX} {pos : Pos} (hu : X.A.units + 65 < cLine) (ha : PD X W a fa) (hb : PD X W b fb) (hm : behindInMarks .NotIn b = false := by with_unfolding_all rfl) : PDT X W (.Compare a [.NotIn] [b] pos) (tB (e2 dNiD fa fb)) := t_cmp (op_notInD hu) q_niD ha hb hm
/-! ### the place in a list of numbers -/
def ixOf (k : Int) : List Int → Option Nat
  | [] => none
  | j :: js => if j = k then some 0 else (match ixOf k js with
    | some i => some (i + 1)
    | none => none)
theorem ixOf_ok {k : Int} : ∀ {js : List Int} {i : Nat}, ixOf k js = some i → js[i]? = some k ∧ ∀ (m : Nat) (z : Int), m < i → js[m]? = some z → z ≠ k
  | [], _, h => by cases h
  | j :: js, i, h => by
    unfold ixOf at h
    split at h
    · rename_i hj
      cases h
      exact ⟨by rw [hj]; rfl, fun m z hm => by omega⟩
    · rename_i hj
      split at h
      · rename_i i' hi
        cases h
        obtain ⟨h1, h2⟩ := ixOf_ok hi
        refine ⟨by simpa using h1, fun m z hm hz => ?_⟩
        cases m with
        | zero =>
          simp at hz
          rw [← hz]
          exact hj
        | succ m => exact h2 m z (by omega) (by simpa using hz)
      · cases h
def dIdx (x y : D) : Option D := match x, y with
  | .lst ds, .int k => (match dInts ds with
    | some js => (match ixOf k js with
      | some i => some (.int i)
      | none => none)
    | none => none)
  | _, _ => none
def isLst (x : D) : Option Unit := match x with
  | .lst _ => some ()
  | _ => none
def eIdx (fa fb : EX) : EX := fun ρ => M.bind (fa ρ) fun x => M.bind (M.opt (isLst x)) fun _ => M.bind (fb ρ) fun y => M.opt (dIdx x y)
theorem flats_ints {js : List Int} : (js.map V.int).all flatV = true := by
  rw [List.all_eq_true]
  intro v hv
  obtain ⟨j, _, rfl⟩ := List.mem_map.mp hv
  rfl
theorem d_idx {a b : Expr} {fa fb : EX} {apos cpos : Pos} (ha : PD X W a fa) (hb : PD X W b fb) (hbase : attributeBase a "index" X.env (eval a X.env) = eval a X.env := by rfl) (hline : (apos.endLine == cpos.line) = true := by rfl) (hs : starEach [b] X.env = (false, eval b X.env) :: starEach [] X.env := by rfl)
    (hfew : ((backTo cpos (starEach [b] X.env)).all (fun x => !x.1) && (backToKw cpos (keywordEach [] X.env)).all (fun x => x.1.isSome) && decide ([b].length + ([] : List Keyword).length + (if ([] : List Keyword).isEmpty then 0 else 1) < 30)) = true := by rfl) :
    PD X W (.Call (.Attribute a "index" apos) [b] [] cpos) (eIdx fa fb) := imp_E (pe_bm PySem.F.plainAttrs_list PySem.F.slot_list_index PySem.F.type_list_index mt_index ha (pa_cons hb pa_nil hs) hbase hfew hline hs) fun σ H Q ⟨fr, F, ρ, n, r, n', R, e, k⟩ => by
  rcases M.bind_any e with ⟨z, e1, rfl⟩ | ⟨x, n1, e1, h⟩
  · exact ⟨fr, F, ρ, n, .error z, n', R, e1, k⟩
  refine ⟨fr, F, ρ, n, .ok x, n1, R, e1, fun F1 H1 v R1 s1 d1 => ?_⟩
  rcases M.bind_any h with ⟨z, e2, rfl⟩ | ⟨_, n2, e2, hh⟩
  · exact (M.opt_err e2).elim
  obtain ⟨q1, q2⟩ := M.opt_ok e2
  subst q2
  unfold isLst at q1
  split at q1
  · rename_i ds
    cases d1 with
    | lst h1 h2 =>
      refine ⟨.inl ⟨rfl, _, R1.core.sub.sqL (SqL.of h1)⟩, ?_⟩
      rcases M.bind_any hh with ⟨z, e3, rfl⟩ | ⟨y, n3, e3, h4⟩
      · exact ⟨fr, F1, ρ, _, .error z, n', R1, e3, KX.mono k s1⟩
      refine ⟨fr, F1, ρ, _, .ok y, n3, R1, e3, fun F2 H2 w R2 s2 d2 => ?_⟩
      rcases r with z | d
      · exact (M.opt_err h4).elim
      obtain ⟨e4, e5⟩ := M.opt_ok h4
      subst e5
      unfold dIdx at e4
      split at e4
      · rename_i ds' kk eds
        cases eds
        split at e4
        · rename_i js hjs
          split at e4
          · rename_i i hi
            cases e4
            cases d2
            obtain ⟨i1, i2⟩ := ixOf_ok hi
            have hv := ints_of h2 hjs
            subst hv
            refine ⟨_, _, .int kk, i, .int kk, rfl, rfl, R2.core.sub.sqL (s2.sqL (SqL.of h1)), rfl, flats_ints, by simp [i1], by simp [eqV], fun m z' hm hz => ?_, k F2 H2 _ R2 (s1.trans s2) (.int _)⟩
            rw [List.getElem?_map] at hz
            obtain ⟨x, hx, rfl⟩ := Option.map_eq_some_iff.mp hz
            have := i2 m x hm hx
            simp [eqV, this]
          · cases e4
        · cases e4
      · cases e4
  · cases q1
end
/-! ### a def with a lambda in it -/
open PyProof.Rows (envOfC)
section
variable {P : Program} {w : World} {K : PySem.W.Frag} {mg : Str → Option Value} {base : Heap} {W : Wd}
theorem okDc {x qual : Str} {st : Stmt} {f : Addr} {fd : FuncData} {N ps : List Str} {k : Nat} {g : SX} (F : Fun K x qual st f fd) (S : FnScope N ps (defScope st))
    (body : ∀ (cdv : Value), Cdv fd cdv → ∀ (A : Around) (outer : List PySem.Env) (s : Shared) (H : Hp) (E : XK), Room k (A.deeper (envOfC qual (defScope st) s.heap.objs.size f cdv)) → PDSs (cxOf (L2.CX P w) P w K mg base N qual (defScope st) f cdv A outer s H E) W (defBody st) g) :
    FnOk P w K mg base (L2.CX P w) (k + 1) f fd ps (spD K W (runD N.length ps.length g) ps.length) := by
  refine fn_okXc F S (fun vs H Q E h => h.1) fun cdv hcv A outer s H vs Q E hr h => ?_
  obtain ⟨hl, fr, F0, n, ds, r, n', c, dd, e, k⟩ := h
  refine ⟨_, body cdv hcv A outer s H E hr, ?_⟩
  rcases M.bind_any e with ⟨z, e1, rfl⟩ | ⟨o, n1, e1, h1⟩
  · exact ⟨fr.at F0 H, F0, _, n, .error z, n', start_rel c dd hl, e1, fun F' H' σ' cls d c' s' x => acc_of rfl rfl rfl rfl (k F' H' cls d c' x)⟩
  refine ⟨fr.at F0 H, F0, _, n, .ok o, n1, start_rel c dd hl, e1, ?_⟩
  cases o with
  | ret d' =>
    obtain ⟨a1, a2⟩ := M.pure_any h1
    subst a1 a2
    exact fun F' H' v c' s' d' => k F' H' v c' d'
  | nx ρ =>
    obtain ⟨a1, a2⟩ := M.pure_any h1
    subst a1 a2
    exact fun F' H' σ' R' s' => k F' H' _ R'.core .non
  | bk ρ => obtain ⟨_, q⟩ := M.opt_any h1; cases q
  | ct ρ => obtain ⟨_, q⟩ := M.opt_any h1; cases q
end
end DL
end

section
set_option Elab.async false
set_option linter.all false
set_option autoImplicit false
set_option maxRecDepth 100000
set_option maxHeartbeats 1000000
/-! own lists by place; extend; lists times a number -/
namespace DL
open PySem PySem.Spec L2
section
variable {X : Cx} {W : Wd} {a b : Expr} {fa fb : EX} {pos : Pos}
/-! ### x[k], x one's own list -/
def eOwnIx (i : Nat) (fk : EX) : EX := fun ρ => M.bind (M.opt (ownLst i ρ)) fun _ => M.bind (fk ρ) fun k => M.opt ((own? ρ i).bind fun d => dIx d k)
theorem d_ownIx {i : Nat} {o k : Expr} {fk : EX} (ho : PE X o (tVar i)) (hk : PD X W k fk) (hs : PlainIx k := by exact fun _ _ => rfl) : PD X W (.Subscript o k pos) (eOwnIx i fk) := imp_E (pe_ix ix_list ho hk hs) fun σ H Q ⟨fr, F, ρ, n, r, n', R, e, kk⟩ => by
  rcases M.bind_any e with ⟨z, e1, rfl⟩ | ⟨_, n1, e1, h⟩
  · exact (M.opt_err e1).elim
  obtain ⟨q0, q1⟩ := M.opt_ok e1
  subst q1
  obtain ⟨zs0, q0⟩ := ownLst_some q0
  obtain ⟨ad0, s0⟩ := R.slots
  obtain ⟨z1, z2, z3, z4, z5, z7⟩ := s0.own i _ q0
  refine ⟨_, z1, ?_⟩
  rcases M.bind_any h with ⟨z, e2, rfl⟩ | ⟨kd, n2, e2, h2⟩
  · exact ⟨fr, F, ρ, _, .error z, n', R, e2, kk⟩
  refine ⟨fr, F, ρ, _, .ok kd, n2, R, e2, fun F1 H1 u R1 s1 d1 => ?_⟩
  rcases r with z | d
  · exact (M.opt_err h2).elim
  obtain ⟨e3, e4⟩ := M.opt_ok h2
  subst e4
  obtain ⟨dd, e5, e6⟩ := Option.bind_eq_some_iff.mp e3
  have hi := own_some e5
  rw [q0] at hi
  cases hi
  obtain ⟨ad, s⟩ := R1.slots
  obtain ⟨a1, a2, a3, a4, ⟨us, a5, a6⟩, a7⟩ := s.own i _ q0
  have ea : ad i = ad0 i := by rw [a1] at z1; injection z1 with z1; injection z1 with z1; injection z1
  cases kd with
  | int j =>
    cases d1
    have e6 : atI zs0 j = some d := e6
    obtain ⟨w, w1, w2⟩ := a6.at e6
    refine ⟨ad0 i, us, j, w, rfl, rfl, ?_, w1, kk F1 H1 w R1 s1 w2⟩
    rw [← ea]
    exact SqL.of a5
  | _ => cases e6
/-! ### x[k] = v, x one's own list -/
def uSet (k d : D) : D → Option D
  | .lst ds => (match k with
    | .int j => (match ixN ds.length j with
      | some m => some (.lst (ds.set m d))
      | none => none)
    | _ => none)
  | _ => none
def sPutL (i : Nat) (fk fv : EX) : SX := fun ρ => M.bind (fv ρ) fun d => M.bind (M.opt (ownLst i ρ)) fun _ => M.bind (fk ρ) fun k => M.bind (M.opt ((own? ρ i).bind (uSet k d))) fun o => M.pure (.nx (ρ.set i (.own o)))
theorem S_putL {i : Nat} {o k v : Expr} {fk fv : EX} {p2 : Pos} (ho : PE X o (tVar i)) (hk : PD X W k fk) (hv : PD X W v fv) (hs : swapsWithSole [.Subscript o k p2] v pos.line X.env = pure false := by rfl) (hw : swappedStores [.Subscript o k p2] v X.env = pure none := by rfl)
    (h1 : (assignEach [.Subscript o k p2] X.env).map (·.2) = [assign (.Subscript o k p2) X.env] := by rfl)
    (ha : ∀ v, assign (.Subscript o k p2) X.env v = (do
      let ov ← holding [v] (eval o X.env)
      let iv ← holding [v, ov] (eval k X.env)
      standAt p2
      holding [v, ov, iv] (setItem ov iv v)
      release [v, ov, iv] []) := by intro _; rfl) :
    PDS X W (.Assign [.Subscript o k p2] v pos) (sPutL i fk fv) := imp_S (ps_asg hv (pg_sub ho hk set_list ha) hs hw h1) fun E σ H ⟨fr, F, ρ, n, r, n', R, e, kk⟩ => by
  rcases M.bind_any e with ⟨z, e1, rfl⟩ | ⟨d, n1, e1, h0⟩
  · exact ⟨fr, F, ρ, n, .error z, n', R, e1, KS.x kk⟩
  rcases M.bind_any h0 with ⟨z, e2, rfl⟩ | ⟨_, n2, e2, h⟩
  · exact (M.opt_err e2).elim
  obtain ⟨q0, q1⟩ := M.opt_ok e2
  subst q1
  obtain ⟨zs0, q0⟩ := ownLst_some q0
  refine ⟨fr, F, ρ, n, .ok d, _, R, e1, fun F1 H1 u R1 s1 d1 => ?_⟩
  obtain ⟨ad0, s0⟩ := R1.slots
  obtain ⟨z1, z2, z3, z4, z5, z7⟩ := s0.own i _ q0
  refine ⟨_, z1, ?_⟩
  rcases M.bind_any h with ⟨z, e3, rfl⟩ | ⟨kd, n3, e3, h3⟩
  · exact ⟨fr, F1, ρ, _, .error z, n', R1, e3, KX.mono (KS.x kk) s1⟩
  refine ⟨fr, F1, ρ, _, .ok kd, n3, R1, e3, fun F2 H2 w R2 s2 d2 => ?_⟩
  rcases M.bind_any h3 with ⟨z, e4, rfl⟩ | ⟨dd, n4, e4, h4⟩
  · exact (M.opt_err e4).elim
  obtain ⟨e5, e6⟩ := M.opt_ok e4
  obtain ⟨e7, e8⟩ := M.pure_any h4
  subst e6 e7 e8
  obtain ⟨dd0, f1, f2⟩ := Option.bind_eq_some_iff.mp e5
  have hi := own_some f1
  rw [q0] at hi
  cases hi
  obtain ⟨ad, s⟩ := R2.slots
  obtain ⟨a1, a2, a3, a4, ⟨us, a5, a6⟩, a7⟩ := s.own i _ q0
  have ea : ad i = ad0 i := by rw [a1] at z1; injection z1 with z1; injection z1 with z1; injection z1
  unfold uSet at f2
  cases kd with
  | int j =>
    cases d2
    have f2 : (match ixN zs0.length j with | some m => some (D.lst (zs0.set m d)) | none => none) = some dd := f2
    split at f2
    · rename_i m hm
      cases f2
      refine ⟨ad0 i, us, j, m, rfl, rfl, by rw [← ea]; exact a5, by rw [a6.length]; exact hm, ?_⟩
      have d1' := d1.mono (dr' := fr.dr) s2 fun _ z => z
      rw [← ea]
      exact kk F2 _ _ (R2.change s q0 ⟨us.set m u, upd_same, a6.set m d1'⟩ rfl) (s1.trans s2)
    · cases f2
  | _ => cases f2
/-! ### x.extend(e), x one's own list -/
def sExtM (i : Nat) (fx : EX) : SX := fun ρ => M.bind (M.opt (ownLst i ρ)) fun _ => sUp i uExt fx ρ
theorem S_extM {i : Nat} {o e : Expr} {fx : EX} {apos cpos pos : Pos} (he : PD X W e fx) (hp : PE X (.Call (.Attribute o "extend" apos) [e] [] cpos) (tBM X.K "list" rExtend (tVar i) (tCons (tD X W fx) tNil))) (hs : swapsWith (.Call (.Attribute o "extend" apos) [e] [] cpos) none pos.line X.env = pure false := by rfl) : PDS X W (.Expr (.Call (.Attribute o "extend" apos) [e] [] cpos) pos) (sExtM i fx) := imp_S (ps_expr hp hs) fun E σ H ⟨fr, F, ρ, n, r, n', R, e, k⟩ => by
  rcases M.bind_any e with ⟨z, e0, rfl⟩ | ⟨ds0, n0, e0, e9⟩
  · exact (M.opt_err e0).elim
  clear e
  have e := e9
  clear e9
  obtain ⟨q0, q1⟩ := M.opt_ok e0
  subst q1
  obtain ⟨zs0, q0⟩ := ownLst_some q0
  obtain ⟨ad0, s0⟩ := R.slots
  obtain ⟨z1, z2, z3, z4, ⟨zs, z5, z6⟩, z7⟩ := s0.own i _ q0
  refine ⟨_, z1, .inl ⟨rfl, _, SqL.of z5⟩, ?_⟩
  rcases r with z | o
  · refine R.dE e (KS.x k) fun _ _ _ _ _ _ h _ _ _ => ?_
    rcases M.bind_err h with h | ⟨_, _, _, h⟩
    · exact (M.opt_err h).elim
    · exact (M.pure_err h).elim
  obtain ⟨d, a, b, e1, hi, e3, rfl⟩ := sUp_ok e
  unfold uExt at e3
  cases a with
  | lst ds =>
    cases d with
    | lst ys =>
      have e3 : (if ds.length + ys.length ≤ sizeLine then some (D.lst (ds ++ ys)) else none) = some b := e3
      split at e3
      · rename_i q
        cases e3
        refine ⟨fr, F, ρ, _, .ok _, _, R, e1, fun F1 H1 v R1 s1 d1 => ?_⟩
        obtain ⟨ad, s⟩ := R1.slots
        obtain ⟨a1, a2, a3, a4, ⟨us, a5, a6⟩, a7⟩ := s.own i _ hi
        have ea : ad i = ad0 i := by rw [a1] at z1; injection z1 with z1; injection z1 with z1; injection z1
        cases d1 with
        | lst b1 b2 =>
          rename_i l vs
          refine ⟨ad i, l, us, vs, by rw [ea], rfl, a5, R1.core.sub _ _ b1, by rw [a6.length, b2.length]; exact q, ?_⟩
          have ch := R1.change s hi (o := .lst (us ++ vs)) (d' := .lst (ds ++ ys)) ⟨us ++ vs, upd_same, a6.append b2⟩ rfl
          exact k F1 _ _ ch s1
      · cases e3
    | _ => cases e3
  | _ => cases e3
/-! ### a list times a number -/
def dMulL : D → D → Option D
  | .lst xs, .int k => if decide (-1000000 ≤ k) && decide (k ≤ 1000000) && decide (xs.length * k.toNat ≤ 1000000) then some (.lst (List.replicate k.toNat xs).flatten) else none
  | _, _ => none
theorem d_mulL (ha : PD X W a fa) (hb : PD X W b fb) : PD X W (.BinOp a .Mult b pos) (e2 dMulL fa fb) := d_op op_rep (by
  intro fr F H σ ρ n x y d v u Q R dx dy h k
  unfold dMulL at h
  split at h
  · split at h
    · rename_i xs kk q
      simp only [Bool.and_eq_true, decide_eq_true_eq] at q
      cases dx with
      | lst h1 h2 =>
        rename_i l vs
        cases dy; cases h
        have s : (1000000 : Nat) ≤ sizeLine := by decide
        refine ⟨_, _, _, rfl, rfl, R.core.sub _ _ h1, by omega, by omega, by rw [h2.length]; exact Nat.le_trans q.2 s, fun p hp => ?_⟩
        have s3 : Sub F (upd F p (.lst (List.replicate kk.toNat vs).flatten)) := (Sub.refl F).new (R.core.noF hp)
        exact k _ _ _ (R.fresh hp) s3 (.lst upd_same ((h2.rep _).mono s3 fun _ z => z))
    · cases h
  · cases h) ha hb
end
end DL
end

section
set_option Elab.async false
set_option linter.all false
set_option autoImplicit false
set_option maxRecDepth 100000
set_option maxHeartbeats 1000000
/-! what is never reached; products of one's own; chains of three -/
namespace DL
open PySem PySem.Spec L2
section
variable {X : Cx} {W : Wd}
/-- a statement that is never reached -/
def sNone : SX := fun _ _ => none
def eNone : EX := fun _ _ => none
theorem S_none {st : Stmt} : PDS X W st sNone := ⟨fun pins s σ H D I ⟨fr, F, ρ, n, r, n', R, e, k⟩ => by cases e⟩
theorem d_none {e : Expr} : PD X W e eNone := ⟨fun pins s σ H Q I ⟨fr, F, ρ, n, r, n', R, e, k⟩ => by cases e⟩
/-- x op= e by a table of plain answers -/
theorem S_aug2 {i : Nat} {y : Str} {e : Expr} {fx : EX} {op : Operator} {r2 : R2} {o2 : D → D → Option D} {pos' pos : Pos} (hN : X.N.Nodup) (hi : X.N[i]? = some y) (hx : Loc X.env.scope y) (he : PD X W e fx) (ho : OpR X (inplaceOp op) r2) (h2 : Op2 X.K W r2 o2) (hf : X.fn y = true ∨ X.env.scope.names.lookup y = some .local := by first | exact .inl rfl | exact .inr rfl | assumption) :
    PDS X W (.AugAssign (.Name y pos') op e pos) (sAug i o2 fx) := imp_S (ps_aug hN hi hx he ho hf) fun E σ H ⟨fr, F, ρ, n, r, n', R, e, k⟩ => by
  rcases r with z | o
  · rcases M.bind_err e with h | ⟨a, n1, e1, h1⟩
    · exact (M.opt_err h).elim
    obtain ⟨e8, e9⟩ := eVar_some e1
    subst e9
    obtain ⟨ad, s⟩ := R.slots
    obtain ⟨v, q1, q2⟩ := s.val i a e8
    refine ⟨v, q1, R.dE h1 (KS.x k) fun _ _ _ _ _ _ h _ _ _ => ?_⟩
    rcases M.bind_err h with h | ⟨_, _, _, h⟩
    · exact (M.opt_err h).elim
    · exact (M.pure_err h).elim
  obtain ⟨a, n1, e1, h1⟩ := M.bind_ok e
  obtain ⟨b, n2, e2, h2'⟩ := M.bind_ok h1
  obtain ⟨d, n3, e3, h3⟩ := M.bind_ok h2'
  obtain ⟨e4, e5⟩ := M.opt_ok e3
  obtain ⟨e6, e7⟩ := M.pure_ok h3
  obtain ⟨e8, e9⟩ := eVar_some e1
  clear e h1 h2' h3 e3
  subst e9 e6
  subst e7
  subst e5
  obtain ⟨ad, s⟩ := R.slots
  obtain ⟨v, q1, q2⟩ := s.val i a e8
  refine ⟨v, q1, fr, F, ρ, _, .ok b, _, R, e2, fun F1 H1 u R1 s1 d1 => ?_⟩
  exact h2 fr F1 H1 σ ρ _ a b d v u _ R1 (q2.mono s1 fun _ z => z) d1 e4 fun F2 H2 w R2 s2 d2 => k F2 H2 _ (R2.set d2) (s1.trans s2)
/-- *= of whole numbers -/
def dMulN : D → D → Option D := dI (fun i j => small64 i || small64 j) fun i j => .int (i * j)
theorem q_mulN {K : PySem.W.Frag} : Op2 K W (rI CMul fun i j => .int (i * j)) dMulN := fun fr F H σ ρ n x y d v u Q R dx dy h k => by
  unfold dMulN dI at h
  split at h
  · split at h
    · rename_i q
      rw [Bool.or_eq_true] at q
      cases dx; cases dy; cases h
      exact ⟨_, _, rfl, rfl, q.imp small64_ok small64_ok, k F H _ R (Sub.refl _) (.int _)⟩
    · cases h
  · cases h
theorem S_mul {i : Nat} {y : Str} {e : Expr} {fx : EX} {pos' pos : Pos} (hN : X.N.Nodup) (hi : X.N[i]? = some y) (hx : Loc X.env.scope y) (he : PD X W e fx) (hf : X.fn y = true ∨ X.env.scope.names.lookup y = some .local := by first | exact .inl rfl | exact .inr rfl | assumption) :
    PDS X W (.AugAssign (.Name y pos') .Mult e pos) (sAug i dMulN fx) := S_aug2 hN hi hx he iop_mul q_mulN hf
/-! ### a <= b <= c <= d -/
def tChain3 (r1 r2 r3 : R2) (ta tb tc td : TE) : TE := fun σ H Q => ta σ H fun x H1 => tb σ H1 fun y H2 => r1 x y H2 fun z H3 => ∃ k, z = .bl k ∧
  (if k = true then tc σ H3 fun x' H4 => r2 y x' H4 fun z' H5 => ∃ k', z' = .bl k' ∧ (if k' = true then td σ H5 fun w H6 => r3 x' w H6 Q else Q (.bl false) H5) else Q (.bl false) H3)
open PyProof PyProof.Rows in
theorem pt_chain3 {a b c d : Expr} {ta tb tc td : TE} {o1 o2 o3 : CmpOp} {r1 r2 r3 : R2} {pos : Pos} (h1 : OpR X (compareOp o1) r1) (h2 : OpR X (compareOp o2) r2) (h3 : OpR X (compareOp o3) r3) (ha : PE X a ta) (hb : PE X b tb) (hc : PE X c tc) (hd : PE X d td)
    (hm : lastMarks [o1, o2, o3] [b, c, d] = false := by with_unfolding_all rfl) : PT X (.Compare a [o1, o2, o3] [b, c, d] pos) (tTest (tChain3 r1 r2 r3 ta tb tc td)) := by
  refine ⟨fun pins s σ H Q I h => ?_⟩
  refine isTrue_chain (thn (ha.run pins s σ H _ I h) fun v s1 ⟨x, H1, I1, e1, q1⟩ => test_link (thn (hb.run pins s1 σ H1 _ I1 q1) fun u s2 ⟨y, H2, I2, e2, q2⟩ =>
    thn (h1 pins s2 σ H2 x y v u _ I2 e1 e2 q2) fun d s3 ⟨z, H3, I3, e3, k, e, q3⟩ => ?_)) hm
  subst e
  cases e3
  refine wpAny_truthy_bool ?_
  cases k with
  | false =>
    obtain ⟨k', e', q'⟩ := q3
    cases e'
    exact ite_ff ⟨H3, I3, q'⟩
  | true =>
    refine ite_tt (test_link (thn (hc.run pins s3 σ H3 _ I3 q3) fun u3 s4 ⟨x', H4, I4, e4, q4⟩ => thn (h2 pins s4 σ H4 y x' u u3 _ I4 e2 e4 q4) fun d s5 ⟨z', H5, I5, e5, k', e, q5⟩ => ?_))
    subst e
    cases e5
    refine wpAny_truthy_bool ?_
    cases k' with
    | false =>
      obtain ⟨k2, e', q'⟩ := q5
      cases e'
      exact ite_ff ⟨H5, I5, q'⟩
    | true =>
      refine ite_tt (test_last (thn (hd.run pins s5 σ H5 _ I5 q5) fun w' s6 ⟨w, H6, I6, e6, q6⟩ => thn (h3 pins s6 σ H6 x' w u3 w' _ I6 e4 e6 q6) fun d' s7 ⟨z2, H7, I7, e7, k2, e2', q7⟩ => ?_))
      subst e2'
      cases e7
      exact wpAny_truthy_bool ⟨H7, I7, q7⟩
def eChain3 (o1 o2 o3 : D → D → Option D) (fa fb fc fd : EX) : EX := fun ρ => M.bind (fa ρ) fun x => M.bind (fb ρ) fun y => M.bind (M.opt (o1 x y)) fun r => match r with
  | .bl true => M.bind (fc ρ) fun z => M.bind (M.opt (o2 y z)) fun r2 => (match r2 with
    | .bl true => M.bind (fd ρ) fun w => M.opt (o3 z w)
    | .bl false => M.pure (.bl false)
    | _ => M.opt none)
  | .bl false => M.pure (.bl false)
  | _ => M.opt none
theorem d_tChain3 {r1 r2 r3 : R2} {o1 o2 o3 : D → D → Option D} {fa fb fc fd : EX} (h1 : Op2 X.K W r1 o1) (h2 : Op2 X.K W r2 o2) (h3 : Op2 X.K W r3 o3) {σ : St} {H : Hp} {Q : VK} (h : tD X W (eChain3 o1 o2 o3 fa fb fc fd) σ H Q) : tChain3 r1 r2 r3 (tD X W fa) (tD X W fb) (tD X W fc) (tD X W fd) σ H Q := by
  obtain ⟨fr, F, ρ, n, r, n', R, e, k⟩ := h
  rcases M.bind_any e with ⟨z, e1, rfl⟩ | ⟨x, n1, e1, ha⟩
  · exact ⟨fr, F, ρ, n, .error z, n', R, e1, k⟩
  refine ⟨fr, F, ρ, n, .ok x, n1, R, e1, fun F1 H1 v R1 s1 d1 => ?_⟩
  rcases M.bind_any ha with ⟨z, e2, rfl⟩ | ⟨y, n2, e2, hb⟩
  · exact ⟨fr, F1, ρ, n1, .error z, n', R1, e2, KX.mono k s1⟩
  refine ⟨fr, F1, ρ, n1, .ok y, n2, R1, e2, fun F2 H2 u R2 s2 d2 => ?_⟩
  rcases M.bind_any hb with ⟨z, e3, rfl⟩ | ⟨b, n3, e3, hc⟩
  · exact (M.opt_err e3).elim
  obtain ⟨e4, e5⟩ := M.opt_ok e3
  subst e5
  refine h1 fr F2 H2 σ ρ _ x y b v u _ R2 (d1.mono s2 fun _ z => z) d2 e4 fun F3 H3 w R3 s3 d3 => ?_
  split at hc
  · cases d3
    refine ⟨true, rfl, ?_⟩
    rw [if_pos rfl]
    rcases M.bind_any hc with ⟨z, e6, rfl⟩ | ⟨t, n4, e6, hd⟩
    · exact ⟨fr, F3, ρ, _, .error z, n', R3, e6, KX.mono k ((s1.trans s2).trans s3)⟩
    refine ⟨fr, F3, ρ, _, .ok t, n4, R3, e6, fun F4 H4 u4 R4 s4 d4 => ?_⟩
    rcases M.bind_any hd with ⟨z, e7, rfl⟩ | ⟨b2, n5, e7, he⟩
    · exact (M.opt_err e7).elim
    obtain ⟨e8, e9⟩ := M.opt_ok e7
    subst e9
    refine h2 fr F4 H4 σ ρ _ y t b2 u u4 _ R4 (d2.mono (s3.trans s4) fun _ z => z) d4 e8 fun F5 H5 w5 R5 s5 d5 => ?_
    have s15 := (((s1.trans s2).trans s3).trans s4).trans s5
    split at he
    · cases d5
      refine ⟨true, rfl, ?_⟩
      rw [if_pos rfl]
      rcases M.bind_any he with ⟨z, g1, rfl⟩ | ⟨t6, n6, g1, hf⟩
      · exact ⟨fr, F5, ρ, _, .error z, n', R5, g1, KX.mono k s15⟩
      refine ⟨fr, F5, ρ, _, .ok t6, n6, R5, g1, fun F6 H6 u6 R6 s6 d6 => ?_⟩
      rcases r with z | d
      · exact (M.opt_err hf).elim
      obtain ⟨g2, g3⟩ := M.opt_ok hf
      subst g3
      exact h3 fr F6 H6 σ ρ _ t t6 d u4 u6 Q R6 (d4.mono (s5.trans s6) fun _ z => z) d6 g2 fun F7 H7 w7 R7 s7 d7 => k F7 H7 w7 R7 ((s15.trans s6).trans s7) d7
    · cases d5
      refine ⟨false, rfl, ?_⟩
      rw [if_neg Bool.false_ne_true]
      obtain ⟨q1, q2⟩ := M.pure_any he
      subst q1 q2
      exact k F5 H5 _ R5 s15 (.bl _)
    · rcases r with z | d
      · exact (M.opt_err he).elim
      · obtain ⟨q, _⟩ := M.opt_ok he
        cases q
  · cases d3
    refine ⟨false, rfl, ?_⟩
    rw [if_neg Bool.false_ne_true]
    obtain ⟨q1, q2⟩ := M.pure_any hc
    subst q1 q2
    exact k F3 H3 _ R3 ((s1.trans s2).trans s3) (.bl _)
  · rcases r with z | d
    · exact (M.opt_err hc).elim
    · obtain ⟨q, _⟩ := M.opt_ok hc
      cases q
theorem t_chain3 {a b c d : Expr} {fa fb fc fd : EX} {p1 p2 p3 : CmpOp} {r1 r2 r3 : R2} {o1 o2 o3 : D → D → Option D} {pos : Pos} (q1 : OpR X (compareOp p1) r1) (q2 : OpR X (compareOp p2) r2) (q3 : OpR X (compareOp p3) r3) (h1 : Op2 X.K W r1 o1) (h2 : Op2 X.K W r2 o2) (h3 : Op2 X.K W r3 o3) (ha : PD X W a fa) (hb : PD X W b fb) (hc : PD X W c fc) (hd : PD X W d fd)
    (hm : lastMarks [p1, p2, p3] [b, c, d] = false := by with_unfolding_all rfl) : PDT X W (.Compare a [p1, p2, p3] [b, c, d] pos) (tB (eChain3 o1 o2 o3 fa fb fc fd)) := imp_T (pt_chain3 q1 q2 q3 ha hb hc hd hm) fun _ _ _ h => t_test (fun _ _ _ => d_tChain3 h1 h2 h3) h
end
end DL
end

section
set_option Elab.async false
set_option linter.all false
set_option autoImplicit false
set_option maxRecDepth 100000
set_option maxHeartbeats 1000000
/-! l[i], l[j] = a, b -/
namespace DL
open PySem PySem.Spec L2
section
variable {X : Cx} {W : Wd}
def putE (i : Nat) (fk : EX) (d : D) (ρ : Env) : M Env := M.bind (M.opt (ownLst i ρ)) fun _ => M.bind (M.calm (fk ρ)) fun k => M.bind (M.opt ((own? ρ i).bind (uSet k d))) fun o => M.pure (ρ.set i (.own o))
theorem g_put {i : Nat} {fk : EX} {fr : Fr} {F H : Hp} {σ : St} {ρ ρ' : Env} {n n' : Int} {v : V} {d : D} {Q : St → Hp → Prop} (R1 : Rel X.K W fr F H σ ρ n) (d1 : Den X.K W fr.dr F v d) (e : putE i fk d ρ n = some (.ok ρ', n')) (kk : ∀ F' H', Rel X.K W fr F' H' σ ρ' n' → Sub F F' → Q σ H') :
    gSub (tVar i) (tD X W fk) (rSetL) v σ H Q := by
  obtain ⟨_, n2, e2, h⟩ := M.bind_ok e
  obtain ⟨q0, q1⟩ := M.opt_ok e2
  subst q1
  obtain ⟨zs0, q0⟩ := ownLst_some q0
  obtain ⟨ad0, s0⟩ := R1.slots
  obtain ⟨z1, z2, z3, z4, z5, z7⟩ := s0.own i _ q0
  refine ⟨_, z1, ?_⟩
  obtain ⟨kd, n3, e3, h3⟩ := M.bind_ok h
  replace e3 := M.calm_ok e3
  refine ⟨fr, F, ρ, _, .ok kd, n3, R1, e3, fun F2 H2 w R2 s2 d2 => ?_⟩
  obtain ⟨dd, n4, e4, h4⟩ := M.bind_ok h3
  obtain ⟨e5, e6⟩ := M.opt_ok e4
  obtain ⟨e7, e8⟩ := M.pure_ok h4
  subst e6 e7 e8
  obtain ⟨dd0, f1, f2⟩ := Option.bind_eq_some_iff.mp e5
  have hi := own_some f1
  rw [q0] at hi
  cases hi
  obtain ⟨ad, s⟩ := R2.slots
  obtain ⟨a1, a2, a3, a4, ⟨us, a5, a6⟩, a7⟩ := s.own i _ q0
  have ea : ad i = ad0 i := by rw [a1] at z1; injection z1 with z1; injection z1 with z1; injection z1
  unfold uSet at f2
  cases kd with
  | int j =>
    cases d2
    have f2 : (match ixN zs0.length j with | some m => some (D.lst (zs0.set m d)) | none => none) = some dd := f2
    split at f2
    · rename_i m hm
      cases f2
      refine ⟨ad0 i, us, j, m, rfl, rfl, by rw [← ea]; exact a5, by rw [a6.length]; exact hm, ?_⟩
      have d1' := d1.mono (dr' := fr.dr) s2 fun _ z => z
      rw [← ea]
      exact kk F2 _ (R2.change s q0 ⟨us.set m v, upd_same, a6.set m d1'⟩ rfl) s2
    · cases f2
  | _ => cases f2
def two : D → Option (D × D)
  | .tup [a, b] => some (a, b)
  | _ => none
def sPutL2 (i : Nat) (fv f1 f2 : EX) : SX := fun ρ => M.bind (fv ρ) fun d => M.bind (M.calm (M.bind (M.opt (two d)) fun p => M.bind (putE i f1 p.1 ρ) fun ρ1 => putE i f2 p.2 ρ1)) fun ρ2 => M.pure (.nx ρ2)
theorem S_putL2 {i : Nat} {o o' k1 k2 v : Expr} {fv f1 f2 : EX} {p1 p2 p3 pos : Pos} {kt : Nat} (hc : X.calm = true) (ho : PE X o (tVar i)) (ho' : PE X o' (tVar i)) (hv : PD X W v fv) (h1 : PD X W k1 f1) (h2 : PD X W k2 f2)
    (hs : swapsWithSole [.Tuple [.Subscript o k1 p1, .Subscript o' k2 p2] kt p3] v pos.line X.env = pure false := by rfl) (hw : swappedStores [.Tuple [.Subscript o k1 p1, .Subscript o' k2 p2] kt p3] v X.env = pure none := by rfl)
    (h0 : (assignEach [.Tuple [.Subscript o k1 p1, .Subscript o' k2 p2] kt p3] X.env).map (·.2) = [assign (.Tuple [.Subscript o k1 p1, .Subscript o' k2 p2] kt p3) X.env] := by rfl)
    (ha1 : ∀ v, assign (.Subscript o k1 p1) X.env v = (do
      let ov ← holding [v] (eval o X.env)
      let iv ← holding [v, ov] (eval k1 X.env)
      standAt p1
      holding [v, ov, iv] (setItem ov iv v)
      release [v, ov, iv] []) := by intro _; rfl)
    (ha2 : ∀ v, assign (.Subscript o' k2 p2) X.env v = (do
      let ov ← holding [v] (eval o' X.env)
      let iv ← holding [v, ov] (eval k2 X.env)
      standAt p2
      holding [v, ov, iv] (setItem ov iv v)
      release [v, ov, iv] []) := by intro _; rfl)
    (hn : (assignEach [.Subscript o k1 p1, .Subscript o' k2 p2] X.env).length = 2 := by rfl) (hst : (assignEach [.Subscript o k1 p1, .Subscript o' k2 p2] X.env).findIdx? (·.1) = none := by rfl) :
    PDS X W (.Assign [.Tuple [.Subscript o k1 p1, .Subscript o' k2 p2] kt p3] v pos) (sPutL2 i fv f1 f2) :=
  imp_S (ps_asg hv (pg_tup hc (pgs_cons (pg_sub ho h1 set_list ha1) (pgs_cons (pg_sub ho' h2 set_list ha2) pgs_nil)) hn hst) hs hw h0) fun E σ H ⟨fr, F, ρ, n, r, n', R, e, kk⟩ => by
  rcases M.bind_any e with ⟨z, e1, rfl⟩ | ⟨d, n1, e1, h0⟩
  · exact ⟨fr, F, ρ, n, .error z, n', R, e1, KS.x kk⟩
  refine ⟨fr, F, ρ, n, .ok d, _, R, e1, fun F1 H1 u R1 s1 d1 => ?_⟩
  rcases M.bind_any h0 with ⟨z, e2, rfl⟩ | ⟨ρ2, n2, e2, h⟩
  · exact (M.calm_err e2).elim
  obtain ⟨g1, g2⟩ := M.pure_any h
  subst g1 g2
  replace e2 := M.calm_ok e2
  obtain ⟨p, n3, e3, h3⟩ := M.bind_ok e2
  obtain ⟨e4, e5⟩ := M.opt_ok e3
  subst e5
  obtain ⟨ρ1, n4, e6, e7⟩ := M.bind_ok h3
  unfold two at e4
  split at e4
  · cases e4
    cases d1 with
    | tup b1 b2 =>
      cases b2 with
      | cons c1 c2 =>
        cases c2 with
        | cons c3 c4 =>
          cases c4
          refine ⟨_, _, rfl, R1.core.sub.sqT b1, rfl, _, _, rfl, g_put R1 c1 e6 fun F2 H2 R2 s2 => ⟨_, _, rfl, g_put R2 (c3.mono (dr' := fr.dr) s2 fun _ z => z) e7 fun F3 H3 R3 s3 => ⟨rfl, kk F3 H3 σ R3 ((s1.trans s2).trans s3)⟩⟩⟩
  · cases e4
end
end DL
end

section
set_option Elab.async false
set_option linter.all false
set_option autoImplicit false
set_option maxRecDepth 100000
set_option maxHeartbeats 1000000
/-! enumerate(v) over a list, a tuple -/
namespace RZ
open PySem PySem.Spec PyProof.Rows PyProof L2
set_option maxHeartbeats 1000000 in
theorem meets_enum1 {v : Value} {o : Obj} {H : Heap → Prop} (B : Begins v o H) :
    Meets (Builtin.«enumerate.__new__» ⟨[.type "enumerate", v], []⟩) (fun _ R s => H s.heap ∧
      R (.ok (.ret (.ref (s.heap.push o).objs.size))) { s with heap := (s.heap.push o).push { cls := .type "enumerate", data := .fields #[.none, .bool false, .ref s.heap.objs.size, rawInt 0, .none, .none] } }) :=
  .of_wp fun prog w A R s h => by
    obtain ⟨hp, g, d, tk, os⟩ := s; obtain ⟨h1, h⟩ := h
    have hsub := sub_enumerate
    have q1 : ∀ {A' : Around} {E : Value → Shared → Prop} {Q : Value → Shared → Prop}, Q (.ref hp.objs.size) ⟨hp.push o, g, d, tk, os⟩ → wpAny (model prog w) A' (pyIter v) Q E ⟨hp, g, d, tk, os⟩ :=
      fun q => B.iter prog w _ _ ⟨hp, g, d, tk, os⟩ _ h1 q
    wp_walk using q1
    refine wpAny_stack_any fun st => wpAny_pure ?_
    split
    · rename_i c _ _ _ _ _
      cases (c == Value.type "enumerate")
      · wp_walk using q1
        exact ⟨_, rfl, h⟩
      · wp_walk using q1
        exact ⟨_, rfl, h⟩
    · wp_walk using q1
      exact ⟨_, rfl, h⟩
section
variable {prog : Program} {w : World} {A : Around} {E : Value → Shared → Prop} {s : Shared}
theorem call_enum1 {v : Value} {o : Obj} {H : Heap → Prop} {Q : Value → Shared → Prop} (B : Begins v o H) (h1 : H s.heap)
    (h : ∀ h', IsEnum h' (s.heap.objs.size + 1) s.heap.objs.size 0 .none → h'.get? s.heap.objs.size = some o → h'.objs.size = s.heap.objs.size + 2 →
      (∀ b o, s.heap.get? b = some o → h'.get? b = some o) → Q (.ref (s.heap.objs.size + 1)) { s with heap := h' }) :
    wpAny (model prog w) A (call (.type "enumerate") [v]) Q E s := by
  refine callType_new F.called_enumerate (by decide) (F.typeCall_enumerate_1 _) (F.newCall_enumerate_1 _) (fun obj => F.args_object_init_2 obj _) F.entry_enumerate_new
    (meets_enum1 B) ⟨h1, ?_⟩
  have hz : (s.heap.push o).objs.size = s.heap.objs.size + 1 := Heap.size_push ..
  show _ ∧ _
  rw [hz]
  have he : IsEnum ((s.heap.push o).push { cls := .type "enumerate", data := .fields #[.none, .bool false, .ref s.heap.objs.size, rawInt 0, .none, .none] }) (s.heap.objs.size + 1) s.heap.objs.size 0 .none := by
    have := Heap.get?_push_size (s.heap.push o) (o := { cls := .type "enumerate", data := .fields #[.none, .bool false, .ref s.heap.objs.size, rawInt 0, .none, .none] }) rfl
    rw [hz] at this; exact this
  refine ⟨⟨_, he, rfl⟩, h _ he (Heap.get?_push_of_some _ (Heap.get?_push_size _ B.free)) (by rw [Heap.size_push, hz]) fun b o x => Heap.get?_push_of_some _ (Heap.get?_push_of_some _ x)⟩
end
/-- the tuple at a, each item in a new pair -/
def IteT (K : PySem.W.Frag) (a : Addr) : It :=
  ⟨fun i H => ∃ (xs : List V) (x : V), SqT K H a xs ∧ xs[i]? = some x, fun i H v H' => ∃ T x, v = .ref T ∧ H T = none ∧ H' = upd H T (.tup [.int (i : Nat), x]) ∧ ∀ xs, SqT K H a xs → xs[i]? = some x, fun i H => ∃ xs : List V, SqT K H a xs ∧ xs.length ≤ i⟩
end RZ
namespace RZ
open PySem PySem.Spec PyProof.Rows PyProof L2
theorem wpAny_pyNext_enum_endT {prog : Program} {w : World} {A : Around} {E : Value → Shared → Prop} {s : Shared} {e it l : Addr} {i : Nat} {items : Array Value} {old : Value} {Q : Option Value → Shared → Prop} (hh : A.handled = none)
    (he : IsEnum s.heap e it i old) (hit : s.heap.IsTupleIter it l i) (hl : s.heap.IsTuple l items) (hx : items[i]? = none)
    (hQ : ∀ h', Heap.ExtBut it s.heap h' → Q none { s with heap := h' }) : wpAny (model prog w) A (pyNext (.ref e)) Q E s := by
  have hT : s.TypeIs (.ref e) "enumerate" := ⟨_, he, rfl⟩
  unfold pyNext
  refine wpAny_bind (wpAny_attempt (wpAny_callSpecial?_slot (name := Str.ofString "__next__") hT F.slot_enumerate_next
    (wpAny_call_entry F.slot_enumerate_next hT F.entry_enumerate_next ?_ (F.args_enumerate_next_1 _))))
  show wpAny _ _ (field (.ref e) 2 >>= _) _ _ _
  refine wpAny_bind (wpAny_field he rfl (x := .ref it) rfl ?_)
  refine wpAny_bind (wpAny_nextOf_tuple_end hh hit hl hx fun h' x he' hx' => ?_)
  obtain ⟨o, ho, hc⟩ := hx'
  refine wpAny_bind (wpAny_isInstance (T := "StopIteration") (b := true) ⟨o, ho, hc⟩ isSubtype_stop ?_)
  exact wpAny_pure (hQ _ he')
theorem turn_enumT {P : Program} {w : World} {K : PySem.W.Frag} {elts : List Expr} {kk : Nat} {tpos : Pos} (a e it : Addr) :
    Turn P w K (.Tuple elts kk tpos) (IteT K a) [e, it] e (fun i h => (∃ old, IsEnum h e it ((i : Nat) : Int) old) ∧ h.IsTupleIter it a i ∧ e ≠ it) where
  mem := by simp
  obj := fun i h st b hb => by
    obtain ⟨⟨old, he⟩, ⟨o, ho, hc, hd⟩, _⟩ := st
    have e' : b = e ∨ b = it := by simpa using hb
    rcases e' with z | z
    · rw [z]; exact ⟨_, he, fun v q => nomatch q⟩
    · rw [z]; exact ⟨o, ho, fun v q => by rw [hd] at q; cases q⟩
  keep := fun i h h' st k => let ⟨⟨old, he⟩, hi, hne⟩ := st; ⟨⟨old, k e (by simp) _ he⟩, hi.at fun o q => k it (by simp) o q, hne⟩
  item := by
    intro X hP hw hK hc i pins s σ H E I hf st hg
    subst hP hw hK
    obtain ⟨⟨old, he⟩, hit, hne⟩ := st
    obtain ⟨xs, x, hq, hx⟩ := hg
    obtain ⟨its, rv, p, hz⟩ := I.tuple hq
    obtain ⟨u, hu, ru⟩ := rv.get hx
    have pT : s.heap.IsTuple a its.toArray := p
    have hel : e < s.heap.objs.size := Heap.lt_size he
    have hil : it < s.heap.objs.size := by obtain ⟨_, q, _⟩ := hit; exact Heap.lt_size q
    have hai : a ≠ it := fun z => by
      subst z
      obtain ⟨o1, q1, c1, _⟩ := hit
      obtain ⟨o2, q2, c2, _⟩ := pT
      rw [q1] at q2
      have := Option.some.inj q2
      subst this
      rw [c1] at c2
      exact absurd (Value.type.inj c2) (by decide)
    have hea : e ≠ a := fun z => by
      subst z
      obtain ⟨o2, q2, c2, _⟩ := pT
      rw [he] at q2
      have := Option.some.inj q2
      subst this
      exact absurd (Value.type.inj c2) (by decide)
    refine wpAny_pyNext_enum_itemC (Draws.tuple (show X.A.in1.handled = none from I.ok.hd hc) it a hai its.toArray) he ⟨hit, pT⟩ (by have := (List.getElem?_eq_some_iff.mp hu).1; simpa using this) hne (by simp [hne, hea]) fun y h' tk hPy ho hit' hT hsz hk => ?_
    have hy : y = u := by
      have hPy : its.toArray[i]? = some y := hPy
      simp at hPy
      rw [hu] at hPy
      exact (Option.some.inj hPy).symm
    subst hy
    refine ⟨_, rfl, wpAny_letOwnedTupleGo_enum (s := { s with heap := h', toks := tk + 1 }) ho fun h'' he' sb => ?_⟩
    have hT2 : h''.get? s.heap.objs.size = some { cls := .type "tuple", data := .seq #[.int i tk, y] } := (sb.2 _ (Nat.ne_of_gt hel)).trans hT
    have new : ObjOk X.prog X.w (upd H s.heap.objs.size (.tup [.int (i : Nat), x])) h'' s.heap.objs.size (.tup [.int (i : Nat), x]) :=
      ⟨by show 2 ≤ sizeLine; decide, [.int i tk, y], .cons ⟨_, rfl⟩ (.cons ru .nil), ⟨_, hT2, rfl, _, rfl⟩⟩
    have I1 : Inv X pins σ (upd H s.heap.objs.size (.tup [.int (i : Nat), x])) { s with heap := h'', toks := tk + 1 } :=
      I.turnedNew (ch := [e, it]) (fun b ob hb q => (sb.2 b (fun z => hb (by simp [z]))).trans (hk b ob (fun z => hb (by simp [z])) (fun z => hb (by simp [z])) q)) hf (Nat.le_refl _) new
    refine ⟨.ref s.heap.objs.size, _, I1, rfl, ⟨_, x, rfl, I.hok.fresh (Nat.le_refl _), rfl, fun ys hy => by rw [I.tuple_inj hy hq]; exact hx⟩, ⟨⟨y, ?_⟩, hit'.1.at fun o q => (sb.2 it (Ne.symm hne)).trans q, hne⟩, fun b hb => ?_⟩
    · have e1 : ((i + 1 : Nat) : Int) = (i : Int) + 1 := by omega
      rw [e1]; exact he'
    · have hb' : b < s.heap.objs.size := by
        have e' : b = e ∨ b = it := by simpa using hb
        rcases e' with z | z
        · rw [z]; exact hel
        · rw [z]; exact hil
      rw [upd_ne (Nat.ne_of_lt hb')]
      exact (hf b hb).1
  done := by
    intro X hP hw hK hc i pins s σ H E I hf st hg
    subst hP hw hK
    obtain ⟨⟨old, he⟩, hit, hne⟩ := st
    obtain ⟨xs, hq, hx⟩ := hg
    obtain ⟨its, rv, p, hz⟩ := I.tuple hq
    obtain ⟨f0, f1, f2, f3, f4, f5⟩ := hf it (by simp)
    have hl := rv.length
    have pT : s.heap.IsTuple a its.toArray := p
    refine wpAny_pyNext_enum_endT (I.ok.hd hc) he hit pT (by simp; omega) fun h' eb => ⟨rfl, I.turned (t' := s.toks) (fun b o hb q => eb b o hb q) f0 f1 f3 f4 f5⟩
  self := fun A i s Q E st h => let ⟨⟨_, he⟩, _⟩ := st; wpAny_pyIter_enum he h
end RZ
namespace RZ
open PySem PySem.Spec PyProof.Rows PyProof L2
def iEnumA (K : PySem.W.Frag) (ta : TA) : TI := fun σ H R => ta σ H fun vs H1 => ∃ a xs, vs = [.ref a] ∧ ((SqL K H1 a xs ∧ R (Ite K a) H1) ∨ (SqT K H1 a xs ∧ R (IteT K a) H1))
theorem pi_enumA {X : Cx} {e : Expr} {ta : TA} {p pos tpos : Pos} {elts : List Expr} {kk : Nat} (hg : Gl X "enumerate") (hm : X.mg "enumerate" = none) (ha : PA X [e] ta) (hs : starEach [e] X.env = [(false, eval e X.env)] := by rfl) :
    PI X (.Tuple elts kk tpos) (.Call (.Name "enumerate" p) [e] [] pos) (iEnumA X.K ta) := by
  refine ⟨fun pins s σ H R I h => ?_⟩
  refine Call_ (ld_blt I hg hm boot_enumerate (PyProof.Rows.callWith_type1 (thn (ha.run pos pins s σ H _ I h) fun us s1 ⟨vs, H1, I1, r1, q1⟩ => ?_) hs rfl))
  obtain ⟨a, xs, ex, q2⟩ := q1
  subst ex
  cases r1 with
  | cons r rr =>
    cases rr
    cases r
    have fin : ∀ b ∈ [s1.heap.objs.size + 1, s1.heap.objs.size], FpOk X pins H1 b := fun b hb => by
      have e' : b = s1.heap.objs.size + 1 ∨ b = s1.heap.objs.size := by simpa using hb
      have hle : s1.heap.objs.size ≤ b := by
        rcases e' with z | z
        · rw [z]; exact Nat.le_add_right _ _
        · rw [z]; exact Nat.le_refl _
      exact I1.fpOk hle (I1.hok.fresh hle)
    rcases q2 with ⟨hq, q⟩ | ⟨hq, q⟩
    · obtain ⟨its, rv, p', hz⟩ := I1.list hq
      refine call_enumerate_list p'.isList fun h' he hit hsz hk => wpAny_pyIter_enum he ?_
      have I2 : Inv X pins σ H1 { s1 with heap := h' } := I1.kept (t' := s1.toks) hk
      exact ⟨s1.heap.objs.size + 1, [s1.heap.objs.size + 1, s1.heap.objs.size], _, _, H1, rfl, I2, turn_enum a (s1.heap.objs.size + 1) s1.heap.objs.size, ⟨⟨.none, he⟩, hit, Nat.succ_ne_self _⟩, fin, q⟩
    · obtain ⟨its, rv, p', hz⟩ := I1.tuple hq
      have pT : s1.heap.IsTuple a its.toArray := p'
      refine call_enum1 (begins_tuple a its.toArray) pT fun h' he hit hsz hk => wpAny_pyIter_enum he ?_
      have I2 : Inv X pins σ H1 { s1 with heap := h' } := I1.kept (t' := s1.toks) hk
      exact ⟨s1.heap.objs.size + 1, [s1.heap.objs.size + 1, s1.heap.objs.size], _, _, H1, rfl, I2, turn_enumT a (s1.heap.objs.size + 1) s1.heap.objs.size, ⟨⟨.none, he⟩, ⟨_, hit, rfl, rfl⟩, Nat.succ_ne_self _⟩, fin, q⟩
end RZ
namespace DL
open PySem PySem.Spec L2 RZ
section
variable {X : Cx} {W : Wd}
def enumD (xs : List D) : List D := zipD ((List.range xs.length).map fun i : Nat => D.int i) xs
def dEnum : List D → Option (List D)
  | [.lst xs] => some (enumD xs)
  | [.tup xs] => some (enumD xs)
  | _ => none
theorem enum_len (xs : List D) : (enumD xs).length = xs.length := by unfold enumD; rw [zip_len, List.length_map, List.length_range, Nat.min_self]
theorem enum_get {xs : List D} {i : Nat} {x : D} (h : xs[i]? = some x) : (enumD xs)[i]? = some (.tup [.int (i : Nat), x]) := by
  unfold enumD zipD
  have hi := (List.getElem?_eq_some_iff.mp h).1
  have z : (((List.range xs.length).map fun i : Nat => D.int i).zip xs)[i]? = some (D.int i, x) := List.getElem?_zip_eq_some.mpr ⟨by rw [List.getElem?_map, List.getElem?_range hi]; rfl, h⟩
  rw [List.getElem?_map, z]
  rfl
theorem enum_turn {K : PySem.W.Frag} {fr : Fr} {F H H' : Hp} {σ : St} {ρ : Env} {n : Int} {i T : Nat} {y : V} {ys : List V} {es : List D} {d : D} (R : Rel K W fr F H σ ρ n) (hy : Dens K W fr.dr F ys es) (hd : (enumD es)[i]? = some d)
    (hT : H T = none) (hH : H' = upd H T (.tup [.int (i : Nat), y])) (h2 : ys[i]? = some y) : ∃ F', Rel K W fr F' H' σ ρ n ∧ Sub F F' ∧ Den K W fr.dr F' (.ref T) d := by
  subst hH
  obtain ⟨d2, e2, q2⟩ := hy.get' h2
  rw [enum_get e2] at hd
  cases hd
  exact ⟨_, R.fresh hT, R.core.sub.new hT, Core.freshTup (H := H) (n := n) (.cons (.int _) (.cons q2 .nil)) (R.core.noF hT)⟩
theorem it_enumL {K : PySem.W.Frag} {dr : Option Addr} {F0 : Hp} {q : Addr} {ys : List V} {es : List D} (h2 : F0 q = some (.lst ys)) (d2 : Dens K W dr F0 ys es) : ItOk K W dr F0 (Ite K q) (enumD es) := fun fr F H σ ρ n i edr R s => by
  subst edr
  have g2 : H q = some (.lst ys) := R.core.sub _ _ (s _ _ h2)
  refine ⟨fun d e => ?_, fun e => ⟨ys, SqL.of g2, by rw [enum_len] at e; rw [d2.length]; omega⟩⟩
  have hi := (List.getElem?_eq_some_iff.mp e).1
  rw [enum_len] at hi
  obtain ⟨y, ey⟩ : ∃ y, ys[i]? = some y := ⟨_, List.getElem?_eq_getElem (by rw [d2.length]; omega)⟩
  refine ⟨⟨ys, y, SqL.of g2, ey⟩, ?_⟩
  rintro v H' ⟨T, y', rfl, hT, hH, k2⟩
  exact enum_turn R (d2.mono s fun _ z => z) e hT hH (k2 _ (SqL.of g2))
theorem it_enumT {K : PySem.W.Frag} {dr : Option Addr} {F0 : Hp} {q : Addr} {ys : List V} {es : List D} (h2 : SqT K F0 q ys) (d2 : Dens K W dr F0 ys es) : ItOk K W dr F0 (IteT K q) (enumD es) := fun fr F H σ ρ n i edr R s => by
  subst edr
  have g2 : SqT K H q ys := R.core.sub.sqT (s.sqT h2)
  refine ⟨fun d e => ?_, fun e => ⟨ys, g2, by rw [enum_len] at e; rw [d2.length]; omega⟩⟩
  have hi := (List.getElem?_eq_some_iff.mp e).1
  rw [enum_len] at hi
  obtain ⟨y, ey⟩ : ∃ y, ys[i]? = some y := ⟨_, List.getElem?_eq_getElem (by rw [d2.length]; omega)⟩
  refine ⟨⟨ys, y, g2, ey⟩, ?_⟩
  rintro v H' ⟨T, y', rfl, hT, hH, k2⟩
  exact enum_turn R (d2.mono s fun _ z => z) e hT hH (k2 _ g2)
def iEnumD (f : EXs) : IX := fun ρ => M.bind (f ρ) fun ds => M.opt (dEnum ds)
theorem i_enum {e : Expr} {f : EXs} {p tpos pos : Pos} {elts : List Expr} {kk : Nat} (hg : Gl X "enumerate") (hm : X.mg "enumerate" = none) (ha : PDs X W [e] f) (hs : starEach [e] X.env = [(false, eval e X.env)] := by rfl) :
    PDI X W (.Tuple elts kk tpos) (.Call (.Name "enumerate" p) [e] [] pos) (iEnumD f) := imp_I (pi_enumA hg hm ha hs) fun σ H R ⟨fr, F, ρ, n, r, n', R0, ev, k⟩ => by
  rcases r with z | ds
  · exact R0.dsE1 ev k
  obtain ⟨x, n1, e1, h⟩ := M.bind_ok ev
  obtain ⟨h1, h2⟩ := M.opt_ok h
  subst h2
  refine ⟨fr, F, ρ, n, .ok x, _, R0, e1, fun F1 H1 vs R1 s1 d1 => ?_⟩
  unfold dEnum at h1
  split at h1
  · cases h1
    cases d1 with
    | cons q1 d2 =>
      cases d2
      cases q1 with
      | lst a1 a2 => exact ⟨_, _, rfl, .inl ⟨SqL.of (R1.core.sub _ _ a1), k F1 H1 _ R1 s1 (it_enumL a1 a2)⟩⟩
  · cases h1
    cases d1 with
    | cons q1 d2 =>
      cases d2
      cases q1 with
      | tup a1 a2 => exact ⟨_, _, rfl, .inr ⟨R1.core.sub.sqT a1, k F1 H1 _ R1 s1 (it_enumT a1 a2)⟩⟩
  · cases h1
end
end DL
end

section
set_option Elab.async false
set_option linter.all false
set_option autoImplicit false
set_option maxRecDepth 100000
set_option maxHeartbeats 1000000
/-! x = list(e), x one's own -/
namespace DL
open PySem PySem.Spec L2
section
variable {X : Cx} {W : Wd}
def itemsLT : D → Option (List D)
  | .lst xs => some xs
  | .tup xs => some xs
  | _ => none
def nLstOf (f : EX) : EXs := fun ρ => M.bind (f ρ) fun d => M.opt (itemsLT d)
theorem n_list {e : Expr} {f : EX} {p pos : Pos} (hg : Gl X "list") (hm : X.mg "list" = none) (hv : bootBuiltins "list" = some (.type "list")) (ha : PD X W e f) (he : starEach [e] X.env = (false, eval e X.env) :: starEach [] X.env := by rfl) (hpl : (backTo pos (starEach [] X.env)).any (·.1) = false := by rfl) :
    PE X (.Call (.Name "list" p) [e] [] pos) (tDN X W (nLstOf f)) := imp_E (pe_callTy call_list_of hg hm hv (pa_cons ha pa_nil he) (by decide) (by decide) he hpl) fun σ H Q ⟨fr, F, ρ, n, r, n', R, e, k⟩ => by
  rcases M.bind_any e with ⟨z, e1, rfl⟩ | ⟨d, n1, e1, h⟩
  · exact ⟨fr, F, ρ, n, .error z, n', R, e1, k⟩
  rcases r with z | ds
  · exact (M.opt_err h).elim
  obtain ⟨h1, h2⟩ := M.opt_ok h
  subst h2
  refine ⟨fr, F, ρ, n, .ok d, _, R, e1, fun F1 H1 v R1 s1 d1 => ?_⟩
  unfold itemsLT at h1
  split at h1
  · cases h1
    cases d1 with
    | lst a1 a2 => exact ⟨_, _, rfl, .inl (SqL.of (R1.core.sub _ _ a1)), fun p hp => k F1 H1 _ R1 s1 a2 p hp⟩
  · cases h1
    cases d1 with
    | tup a1 a2 => exact ⟨_, _, rfl, .inr (R1.core.sub.sqT a1), fun p hp => k F1 H1 _ R1 s1 a2 p hp⟩
  · cases h1
end
end DL
end

section
set_option Elab.async false
set_option linter.all false
set_option autoImplicit false
set_option maxRecDepth 100000
set_option maxHeartbeats 4000000
/-! sorted(set(e)), e a list of whole numbers -/
namespace RZ
open PySem PySem.Spec PyProof.Rows L2
/-- the set as it is made, with nothing in it -/
abbrev eS (w : World) : Obj := { cls := .type "set", dict := none, data := .set #[] 0 (.fresh 0 0 (!w.params.followText "set-order")) }
section
variable {P : Program} {w : World} {A : Around} {E : Value → Shared → Prop} {s : Shared}
set_option maxRecDepth 100000 in
/-- set(l), l a list of whole numbers: its members and no more of them than the list has -/
theorem call_set_listR {l : Addr} {items : Array Value} (ns : List Int) {Q : Value → Shared → Prop} (hh : A.handled = none) (hl : s.heap.IsList l items) (hit : IntsAre items.toList ns) (hb : ns.length + 1 < scanBound)
    (h : ∀ (h' : Heap) (tk c : Nat), SetR w h' s.heap.objs.size (fun j => decide (j ∈ ns)) c → c ≤ ns.length → (∀ b o, s.heap.get? b = some o → h'.get? b = some o) → Q (.ref s.heap.objs.size) { s with heap := h', toks := tk }) :
    wpAny (model P w) A (call (.type "set") [.ref l]) Q E s := by
  have many : items.size = ns.length := by
    have q := IntsAre.length hit
    rw [Array.length_toList] at q
    exact q
  obtain ⟨c, tl, hmro⟩ := F.called_set.mro
  have made := F.called_set.made
  have sub := F.called_set.sub
  refine wpAny_call (codeAny_of_tree ?_)
  show wpAny _ _ (callAny (.type "set") _) _ _ _
  refine wpAny_pure ⟨Code.quiet_builtin _ (by decide +kernel), codeAny_builtin F.entry_type_call ?_⟩
  rw [Around.under_plain (weight_type_call_type "set" [.ref l] []) rfl]
  have f1 := F.called_set.notType
  have f2 := F.called_set.canCreate
  have f3 := F.typeCall_set_1 (.ref l)
  repeat (any_goals (first | assumption | wp_step))
  refine codeAny_mono (code_set_led1 (.ref l) (E := E) (Q₁ := fun obj s₁ => obj = .ref s.heap.objs.size ∧ s₁ = { s with heap := s.heap.push (eS w) }) ⟨rfl, rfl⟩) fun r s₁ hr => ?_
  rcases r with e | fl
  · exact hr
  cases fl with
  | next => exact hr.elim
  | brk => exact hr.elim
  | cont => exact hr.elim
  | ret obj =>
    obtain ⟨rfl, rfl⟩ := hr
    have at0 : (s.heap.push (eS w)).get? s.heap.objs.size = some (eS w) := Heap.get?_push_size _ rfl
    have ty0 : Shared.TypeIs { s with heap := s.heap.push (eS w) } (.ref s.heap.objs.size) "set" := ⟨_, at0, rfl⟩
    have look := F.called_set.init.lookup
    have bind := F.called_set.init.bind (.ref s.heap.objs.size)
    repeat (any_goals (first | assumption | wp_step))
    refine codeAny_mono (codeAny_call_builtin (R := wants (fun r s₂ => r = .none ∧ ∃ h' tk c, s₂ = { s with heap := h', toks := tk } ∧ SetR w h' s.heap.objs.size (fun j => decide (j ∈ ns)) c ∧ c ≤ ns.length ∧
        (∀ b o, s.heap.get? b = some o → h'.get? b = some o)) E) F.called_set.init.plain F.entry_set_init (check_set_init_1 ty0 ?_)) fun r₂ s₂ hr₂ => ?_
    · obtain ⟨⟨ocls, odict, odata, oslots⟩, hol, hcl, nl, hdl⟩ := hl
      simp only at hcl hdl
      subst hcl; subst hdl
      have hol' : (s.heap.push (eS w)).get? l = some { cls := .type "list", dict := odict, data := .seq items nl, slots := oslots } := Heap.get?_push_of_some _ hol
      have g1 := F.sub_list_set
      have g2 := F.sub_list_frozenset
      have g3 : (Value.type "list" == Value.type "dict") = false := by decide
      have hl1 : (s.heap.push (eS w)).IsList l items := ⟨_, hol', rfl, nl, rfl⟩
      unfold Builtin.«set.__init__» noKeywords Builtin.Frozenset.updateFrom
      generalize hPI : pyIter = PI
      wp_walk
      subst hPI
      refine wpAny_pyIter_list hl1 ?_
      refine wpAny_bind (wpAny_runValue ?_)
      have lo : l < s.heap.objs.size := Heap.lt_size hol
      have hh3 : A.in1.in1.in1.handled = none := by simp [hh]
      have sz : (s.heap.push (eS w)).objs.size = s.heap.objs.size + 1 := Heap.size_push ..
      have ne1 : l ≠ (s.heap.push (eS w)).objs.size := by rw [sz]; exact Nat.ne_of_lt (Nat.lt_succ_of_lt lo)
      have apart : s.heap.objs.size ∉ [(s.heap.push (eS w)).objs.size, l] := by
        rw [sz]
        simp only [List.mem_cons, List.not_mem_nil, or_false, not_or]
        exact ⟨Nat.ne_of_lt (Nat.lt_succ_self _), Nat.ne_of_gt lo⟩
      have val : ∀ (i : Nat) (v : Value), items[i]? = some v → ∃ k t, ns[i]? = some k ∧ v = .int k t := fun i v hv => by
        have hi : i < ns.length := by rw [← many]; exact (Array.getElem?_eq_some_iff.mp hv).1
        obtain ⟨t, e⟩ := PyProof.Rows.IntsAre.int_at hit i v (by rw [Array.getElem?_toList]; exact hv)
        refine ⟨ns[i], t, List.getElem?_eq_getElem hi, ?_⟩
        rw [e, List.getD_eq_getElem?_getD, List.getElem?_eq_getElem hi] <;> rfl
      refine set_update_ints ((Walks.list hh3 _ l ne1 items).toS) s.heap.objs.size apart ns many hb val (items.size - 0) 0 _ (by omega) (Nat.zero_le _)
        ⟨⟨_, Heap.get?_push_size _ rfl, rfl, rfl⟩, (hl1.push _)⟩ ⟨0, Nat.le_refl 0, setR_new_at (Heap.get?_push_of_some _ at0)⟩ ?_
      rintro ⟨h', g, d', tk', os'⟩ c' hm hc' hS'
      have eg : g = s.gens := hm.gens
      have ed : d' = s.drawn := hm.drawn
      have eo : os' = s.os := hm.os
      subst eg; subst ed; subst eo
      show wpAny _ _ _ _ _ _
      refine wpAny_pure ?_
      show wpAny _ _ (ret Value.none) _ _ _
      rw [many] at hc'
      refine wpAny_pure ⟨rfl, h', tk', c', rfl, hS', hc', fun b o e => ?_⟩
      have hb0 : b < s.heap.objs.size := Heap.lt_size e
      exact hm.heap b o (by
        simp only [List.mem_cons, List.not_mem_nil, or_false, not_or]
        rw [sz]
        exact ⟨Nat.ne_of_lt hb0, Nat.ne_of_lt (Nat.lt_succ_of_lt hb0)⟩) (Heap.get?_push_of_some _ (Heap.get?_push_of_some _ e))
    · rcases r₂ with e | fl₂
      · exact hr₂
      cases fl₂ with
      | next => exact hr₂.elim
      | brk => exact hr₂.elim
      | cont => exact hr₂.elim
      | ret r =>
        obtain ⟨rfl, h', tk, c', rfl, hS', hc', hk'⟩ := hr₂
        repeat (any_goals (first | assumption | wp_step))
        exact h h' tk c' hS' hc' hk'
end
end RZ
namespace RZ
open PySem PySem.Spec PyProof.Rows L2
def tSortSet (K : PySem.W.Frag) (ta : TE) : TE := fun σ H Q => ta σ H fun x H1 => ∃ (l : Addr) (ns : List Int), x = V.ref l ∧ SqL K H1 l (ns.map V.int) ∧ ns.length < 64 ∧
  ∀ out : List Int, out.Pairwise (· < ·) → (∀ k, k ∈ out ↔ k ∈ ns) → ∀ p, H1 p = none → Q (.ref p) (upd H1 p (.lst (out.map V.int)))
theorem vals_ints : ∀ {us : List Value} {ns : List Int}, IntsAre us ns → Vals (ns.map V.int) us
  | _, _, .nil => .nil
  | _, _, .cons n t h => .cons ⟨t, rfl⟩ (vals_ints h)
theorem pe_sortSet {X : Cx} {a : Expr} {ta : TE} {p p2 q pos : Pos} (hc : X.calm = true) (hg : Gl X "sorted") (hm : X.mg "sorted" = none) (hg2 : Gl X "set") (hm2 : X.mg "set" = none) (ha : PE X a ta)
    (na : starEach [a] X.env = (false, eval a X.env) :: starEach [] X.env := by rfl) : PE X (.Call (.Name "sorted" p) [.Call (.Name "set" p2) [a] [] q] [] pos) (tSortSet X.K ta) := by
  refine ⟨fun pins s σ H Q I h => ?_⟩
  refine Call_ (ld_blt I hg hm (by kernel_rfl : bootBuiltins "sorted" = some (.builtin "sorted")) ?_)
  refine PyProof.Rows.callWith_builtin1 (PyProof.Rows.args_cons ?_ rfl) rfl rfl
  refine Call_ (ld_blt I hg2 hm2 PyProof.Rows.boot_set ?_)
  refine PyProof.Rows.callWith_type1 (PyProof.Rows.args_cons (thn (ha.run pins s σ H _ I h) fun v s1 ⟨x, H1, I1, r1, q1⟩ => PyProof.Rows.args_nil ?_) na) na rfl
  obtain ⟨l, ns, rfl, hq, h64, q1⟩ := q1
  cases r1
  obtain ⟨its, r, pl, hz⟩ := I1.list hq
  refine call_set_listR ns (I1.ok.hd hc) pl.isList (by simpa using ints_of_vals r) (by unfold scanBound; omega) fun h' tk c R1 hcn k => ?_
  refine PyProof.Rows.args_nil ?_
  refine sorted_set (s := { s1 with heap := h', toks := tk }) R1 (I1.ok.hd hc) (by omega) fun s2 p out cc ns' k2 g2 o2 hle hget hI hpw hmem hlen => ?_
  have kall : ∀ b u, s1.heap.get? b = some u → s2.heap.get? b = some u := fun b u e => k2 b u (k b u e)
  have hlt : s1.heap.objs.size < h'.objs.size := R1.lt
  have hp : s1.heap.objs.size ≤ p := Nat.le_trans (Nat.le_of_lt hlt) hle
  have hn : H1 p = none := I1.hok.fresh hp
  have hv : Vals (ns'.map V.int) out.toList := vals_ints hI
  have hl2 : (ns'.map V.int).length ≤ sizeLine := by rw [List.length_map, sizeLine_eq]; omega
  have J : Inv X pins σ (upd H1 p (.lst (ns'.map V.int))) { s1 with heap := s2.heap, gens := s2.gens, drawn := s2.drawn, toks := s2.toks } :=
    I1.call (ch := []) (Un.laid kall hp hn) (I1.hok.laid kall hp ⟨hl2, out.toList, cc, hv, hget⟩) (by rw [g2]; exact I1.bare) (fun _ z => nomatch z)
  have e : s2 = { s1 with heap := s2.heap, gens := s2.gens, drawn := s2.drawn, toks := s2.toks } := by
    cases s2
    cases s1
    cases o2
    rfl
  rw [e]
  exact ⟨.ref p, _, J, rfl, q1 ns' hpw (fun j => by rw [hmem j, decide_eq_true_eq]) p hn⟩
end RZ
namespace DL
open PySem PySem.Spec L2
section
variable {X : Cx} {W : Wd}
def dSortSet : D → Option D
  | .lst ds => (match dInts ds with
    | some ns => if ns.length < 64 ∧ ns.Nodup then some (.lst ((srt leZ ns).map .int)) else none
    | none => none)
  | _ => none
theorem lt_uniq : ∀ {xs ys : List Int}, xs.Pairwise (· < ·) → ys.Pairwise (· < ·) → (∀ k, k ∈ xs ↔ k ∈ ys) → xs = ys
  | [], [], _, _, _ => rfl
  | [], y :: ys, _, _, h => by have := (h y).mpr List.mem_cons_self; simp at this
  | x :: xs, [], _, _, h => by have := (h x).mp List.mem_cons_self; simp at this
  | x :: xs, y :: ys, hx, hy, h => by
    obtain ⟨x1, x2⟩ := List.pairwise_cons.mp hx
    obtain ⟨y1, y2⟩ := List.pairwise_cons.mp hy
    have e : x = y := by
      rcases List.mem_cons.mp ((h x).mp List.mem_cons_self) with a | a
      · exact a
      · rcases List.mem_cons.mp ((h y).mpr List.mem_cons_self) with b | b
        · exact b.symm
        · have := x1 y b; have := y1 x a; omega
    subst e
    congr 1
    refine lt_uniq x2 y2 fun k => ⟨fun m => ?_, fun m => ?_⟩
    · rcases List.mem_cons.mp ((h k).mp (List.mem_cons_of_mem _ m)) with a | a
      · subst a; have := x1 k m; omega
      · exact a
    · rcases List.mem_cons.mp ((h k).mpr (List.mem_cons_of_mem _ m)) with a | a
      · subst a; have := y1 k m; omega
      · exact a
theorem srt_lt {ns : List Int} (h : ns.Nodup) : (srt leZ ns).Pairwise (· < ·) := by
  refine L2.lt_of_le_nodup _ ((srt_sorted (le := leZ) (fun x y => by unfold leZ; simp; omega) (fun x y z h h' => by have a := of_decide_eq_true h; have b := of_decide_eq_true h'; exact decide_eq_true (by omega)) ns).imp fun h => of_decide_eq_true h) ((srt_perm leZ ns).nodup_iff.mpr h)
theorem d_sortSet {a : Expr} {fa : EX} {p p2 q pos : Pos} (hg : Gl X "sorted") (hm : X.mg "sorted" = none) (hg2 : Gl X "set") (hm2 : X.mg "set" = none) (ha : PD X W a fa) (hc : X.calm = true := by rfl) (na : starEach [a] X.env = (false, eval a X.env) :: starEach [] X.env := by rfl) : PD X W (.Call (.Name "sorted" p) [.Call (.Name "set" p2) [a] [] q] [] pos) (e1 dSortSet fa) := imp_E (RZ.pe_sortSet hc hg hm hg2 hm2 ha na) fun σ H Q ⟨fr, F, ρ, n, r, n', R, e, k⟩ => by
  rcases r with z | o
  · exact R.dE1 e k
  obtain ⟨x, n1, e1, h⟩ := M.bind_ok e
  obtain ⟨h1, h2⟩ := M.opt_ok h
  subst h2
  refine ⟨fr, F, ρ, n, .ok x, _, R, e1, fun F1 H1 v R1 s1 d1 => ?_⟩
  unfold dSortSet at h1
  split at h1
  · split at h1
    · rename_i ds ns hns
      split at h1
      · rename_i hh
        cases h1
        cases d1 with
        | lst a1 a2 =>
          rename_i l vs
          have ev : vs = ns.map V.int := ints_of a2 hns
          subst ev
          refine ⟨l, ns, rfl, SqL.of (R1.core.sub _ _ a1), hh.1, fun out hpw hmem p hp => ?_⟩
          have eo : out = srt leZ ns := lt_uniq hpw (srt_lt hh.2) fun j => by rw [hmem j, (srt_perm leZ ns).mem_iff]
          subst eo
          exact put_lst R1 (dens_ints _) (fun F2 H2 w R2 s2 d2 => k F2 H2 w R2 (s1.trans s2) d2) p hp
      · cases h1
    · cases h1
  · cases h1
end
end DL
end

section
set_option Elab.async false
set_option linter.all false
set_option autoImplicit false
set_option maxRecDepth 100000
set_option maxHeartbeats 1000000
/-! one meaning where it is told, else another: for a method that several classes have -/
namespace DL
open PySem PySem.Spec L2
section
variable {X : Cx} {W : Wd}
def eAlt (f g : EX) : EX := fun ρ n => match f ρ n with
  | none => g ρ n
  | some r => some r
def tAlt (f g : TX) : TX := fun ρ n => match f ρ n with
  | none => g ρ n
  | some r => some r
theorem d_alt {e : Expr} {f g : EX} (h1 : PD X W e f) (h2 : PD X W e g) : PD X W e (eAlt f g) := ⟨fun pins s σ H Q I ⟨fr, F, ρ, n, r, n', R, e, k⟩ => by
  unfold eAlt at e
  split at e
  · exact h2.run pins s σ H Q I ⟨fr, F, ρ, n, r, n', R, e, k⟩
  · rename_i r' hr
    cases e
    exact h1.run pins s σ H Q I ⟨fr, F, ρ, n, r, n', R, hr, k⟩⟩
theorem t_alt {e : Expr} {f g : TX} (h1 : PDT X W e f) (h2 : PDT X W e g) : PDT X W e (tAlt f g) := ⟨fun pins s σ H Q I ⟨fr, F, ρ, n, r, n', R, e, k⟩ => by
  unfold tAlt at e
  split at e
  · exact h2.run pins s σ H Q I ⟨fr, F, ρ, n, r, n', R, e, k⟩
  · rename_i r' hr
    cases e
    exact h1.run pins s σ H Q I ⟨fr, F, ρ, n, r, n', R, hr, k⟩⟩
end
end DL
end

section
set_option Elab.async false
set_option linter.all false
set_option autoImplicit false
set_option maxRecDepth 100000
/-! evaluating the functions over plain data -/
namespace DL
open PySem L2
/-- the ways on, by names of their own (no match stands in a goal) -/
def bindR {α β : Type} (r : Option (Except Xc α × Int)) (k : α → M β) : Option (Except Xc β × Int) := match r with
  | none => none
  | some (.ok x, n1) => k x n1
  | some (.error e, n1) => some (.error e, n1)
@[simp] theorem bindR_ok {α β : Type} (x : α) (n : Int) (k : α → M β) : bindR (some (.ok x, n)) k = k x n := (rfl)
@[simp] theorem bindR_none {α β : Type} (k : α → M β) : bindR none k = none := (rfl)
@[simp] theorem bindR_err {α β : Type} (e : Xc) (n : Int) (k : α → M β) : bindR (some (.error e, n)) k = some (.error e, n) := (rfl)
def selB {α : Type} (b : Bool) (x y : α) : α := match b with | true => x | false => y
@[simp] theorem selB_true {α : Type} (x y : α) : selB true x y = x := (rfl)
@[simp] theorem selB_false {α : Type} (x y : α) : selB false x y = y := (rfl)
def seqK (h : SX) (o : Out) : M Out := match o with
  | .nx ρ' => h ρ'
  | .bk ρ' => M.pure (.bk ρ')
  | .ct ρ' => M.pure (.ct ρ')
  | .ret d => M.pure (.ret d)
@[simp] theorem seqK_nx (h : SX) (ρ : Env) : seqK h (.nx ρ) = h ρ := (rfl)
@[simp] theorem seqK_bk (h : SX) (ρ : Env) : seqK h (.bk ρ) = M.pure (.bk ρ) := (rfl)
@[simp] theorem seqK_ct (h : SX) (ρ : Env) : seqK h (.ct ρ) = M.pure (.ct ρ) := (rfl)
@[simp] theorem seqK_ret (h : SX) (d : D) : seqK h (.ret d) = M.pure (.ret d) := (rfl)
def runK (o : Out) : M D := match o with
  | .ret d => M.pure d
  | .nx _ => M.pure .non
  | _ => M.opt none
@[simp] theorem runK_ret (d : D) : runK (.ret d) = M.pure d := (rfl)
@[simp] theorem runK_nx (ρ : Env) : runK (.nx ρ) = M.pure .non := (rfl)
def runIK (o : Out) : M D := match o with
  | .nx (Sl.own d :: _) => M.pure d
  | _ => M.opt none
@[simp] theorem runIK_nx (d : D) (r : Env) : runIK (.nx (Sl.own d :: r)) = M.pure d := (rfl)
/-- behind a turn: on with k, or out -/
def turnK (k : Env → M Out) (o : Out) : M Out := match o with
  | .nx ρ2 => k ρ2
  | .ct ρ2 => k ρ2
  | .bk ρ2 => M.pure (.nx ρ2)
  | .ret d => M.pure (.ret d)
@[simp] theorem turnK_nx (k : Env → M Out) (ρ : Env) : turnK k (.nx ρ) = k ρ := (rfl)
@[simp] theorem turnK_ct (k : Env → M Out) (ρ : Env) : turnK k (.ct ρ) = k ρ := (rfl)
@[simp] theorem turnK_bk (k : Env → M Out) (ρ : Env) : turnK k (.bk ρ) = M.pure (.nx ρ) := (rfl)
@[simp] theorem turnK_ret (k : Env → M Out) (d : D) : turnK k (.ret d) = M.pure (.ret d) := (rfl)
def makeK (c : Nat) (d : D) : M D := match d with
  | .obj c' ks vs => if c' = c then M.pure (.obj c' ks vs) else M.opt none
  | _ => M.opt none
@[simp] theorem makeK_obj (c : Nat) (ks : List Str) (vs : List D) : makeK c (.obj c ks vs) = M.pure (.obj c ks vs) := if_pos rfl
def intK (d : D) : Option (Option Int) := match d with | .int i => some (some i) | _ => none
@[simp] theorem intK_int (i : Int) : intK (.int i) = some (some i) := (rfl)
def chainK (o2 : D → D → Option D) (y : D) (fc : M D) (r : D) : M D := match r with
  | .bl true => M.bind fc fun z => M.opt (o2 y z)
  | .bl false => M.pure (.bl false)
  | _ => M.opt none
@[simp] theorem chainK_true (o2 : D → D → Option D) (y : D) (fc : M D) : chainK o2 y fc (.bl true) = M.bind fc fun z => M.opt (o2 y z) := (rfl)
@[simp] theorem chainK_false (o2 : D → D → Option D) (y : D) (fc : M D) : chainK o2 y fc (.bl false) = M.pure (.bl false) := (rfl)
def consO (y : Option D) (ys : List D) : List D := match y with | some z => z :: ys | none => ys
@[simp] theorem consO_some (z : D) (ys : List D) : consO (some z) ys = z :: ys := (rfl)
@[simp] theorem consO_none (ys : List D) : consO none ys = ys := (rfl)
def findK (o : Option D) (r : D → D) (ρ : Env) : Out := match o with | some d => .ret (r d) | none => .nx ρ
@[simp] theorem findK_some (d : D) (r : D → D) (ρ : Env) : findK (some d) r ρ = .ret (r d) := (rfl)
@[simp] theorem findK_none (r : D → D) (ρ : Env) : findK none r ρ = .nx ρ := (rfl)
@[simp] theorem bind_ap {α β : Type} (a : M α) (k : α → M β) (n : Int) : M.bind a k n = bindR (a n) k := (rfl)
@[simp] theorem pure_ap {α : Type} (a : α) (n : Int) : M.pure a n = some (.ok a, n) := (rfl)
@[simp] theorem opt_some {α : Type} (a : α) (n : Int) : M.opt (some a) n = some (.ok a, n) := (rfl)
@[simp] theorem opt_none {α : Type} (n : Int) : (M.opt (none : Option α)) n = none := (rfl)
@[simp] theorem eVar_0 (d : D) (r : Env) (n : Int) : eVar 0 (.val d :: r) n = some (.ok d, n) := (rfl)
@[simp] theorem eVar_s (i : Nat) (s : Sl) (r : Env) (n : Int) : eVar (i + 1) (s :: r) n = eVar i r n := (rfl)
@[simp] theorem eC_ap (d : D) (ρ : Env) (n : Int) : eC d ρ n = some (.ok d, n) := (rfl)
@[simp] theorem eNil_ap (ρ : Env) (n : Int) : eNil ρ n = some (.ok [], n) := (rfl)
@[simp] theorem eCons_ap (f : EX) (g : EXs) (ρ : Env) (n : Int) : eCons f g ρ n = M.bind (f ρ) (fun d => M.bind (g ρ) fun ds => M.pure (d :: ds)) n := (rfl)
@[simp] theorem eTup_ap (f : EXs) (ρ : Env) (n : Int) : eTup f ρ n = M.bind (f ρ) (fun ds => M.opt (mkTup ds)) n := (rfl)
@[simp] theorem eLst_ap (f : EXs) (ρ : Env) (n : Int) : eLst f ρ n = M.bind (f ρ) (fun ds => M.opt (mkLst ds)) n := (rfl)
@[simp] theorem e2_ap (op : D → D → Option D) (a b : EX) (ρ : Env) (n : Int) : e2 op a b ρ n = M.bind (a ρ) (fun x => M.bind (b ρ) fun y => M.opt (op x y)) n := (rfl)
@[simp] theorem e1_ap (op : D → Option D) (a : EX) (ρ : Env) (n : Int) : e1 op a ρ n = M.bind (a ρ) (fun x => M.opt (op x)) n := (rfl)
@[simp] theorem eB_ap (op : List D → Option D) (a : EXs) (ρ : Env) (n : Int) : eB op a ρ n = M.bind (a ρ) (fun x => M.opt (op x)) n := (rfl)
@[simp] theorem eCall_ap (fx : FX) (a : EXs) (ρ : Env) (n : Int) : eCall fx a ρ n = M.bind (a ρ) fx n := (rfl)
@[simp] theorem eMake_ap (c : Nat) (fx : FX) (a : EXs) (ρ : Env) (n : Int) : eMake c fx a ρ n = M.bind (a ρ) (fun ds => M.bind (fx ds) (makeK c)) n := (rfl)
@[simp] theorem eMeth_ap (c : Nat) (m : Str) (fx : FX) (fo : EX) (fs : EXs) (ρ : Env) (n : Int) : eMeth c m fx fo fs ρ n = M.bind (fo ρ) (fun o => if isObj c m o then M.bind (fs ρ) fun ds => fx (o :: ds) else M.opt none) n := (rfl)
@[simp] theorem eIf_ap (t : TX) (f g : EX) (ρ : Env) (n : Int) : eIf t f g ρ n = M.bind (t ρ) (fun b => selB b (f ρ) (g ρ)) n := (rfl)
@[simp] theorem eAnd_ap (f g : EX) (ρ : Env) (n : Int) : eAnd f g ρ n = M.bind (f ρ) (fun d => M.bind (M.opt (dTru d)) fun b => selB b (g ρ) (M.pure d)) n := (rfl)
@[simp] theorem eOr_ap (f g : EX) (ρ : Env) (n : Int) : eOr f g ρ n = M.bind (f ρ) (fun d => M.bind (M.opt (dTru d)) fun b => selB b (M.pure d) (g ρ)) n := (rfl)
@[simp] theorem eNot_ap (f : EX) (ρ : Env) (n : Int) : eNot f ρ n = M.bind (f ρ) (fun d => M.bind (M.opt (dTru d)) fun b => M.pure (.bl (!b))) n := (rfl)
@[simp] theorem eCut_ap (f : EX) (lo hi : EO) (ρ : Env) (n : Int) : eCut f lo hi ρ n = M.bind (f ρ) (fun x => M.bind (lo ρ) fun l => M.bind (hi ρ) fun h => M.opt (dCut x l h)) n := (rfl)
@[simp] theorem oNone_ap (ρ : Env) (n : Int) : oNone ρ n = some (.ok none, n) := (rfl)
@[simp] theorem oSome_ap (f : EX) (ρ : Env) (n : Int) : oSome f ρ n = M.bind (f ρ) (fun d => M.opt (intK d)) n := (rfl)
@[simp] theorem eChain_ap (o1 o2 : D → D → Option D) (fa fb fc : EX) (ρ : Env) (n : Int) : eChain o1 o2 fa fb fc ρ n = M.bind (fa ρ) (fun x => M.bind (fb ρ) fun y => M.bind (M.opt (o1 x y)) fun r => chainK o2 y (fc ρ) r) n := (rfl)
@[simp] theorem tB_ap (f : EX) (ρ : Env) (n : Int) : tB f ρ n = M.bind (f ρ) (fun d => M.opt (dBool d)) n := (rfl)
@[simp] theorem tTru_ap (f : EX) (ρ : Env) (n : Int) : tTru f ρ n = M.bind (f ρ) (fun d => M.opt (dTru d)) n := (rfl)
@[simp] theorem tAndD_ap (t u : TX) (ρ : Env) (n : Int) : tAndD t u ρ n = M.bind (t ρ) (fun b => selB b (u ρ) (M.pure false)) n := (rfl)
@[simp] theorem tOrD_ap (t u : TX) (ρ : Env) (n : Int) : tOrD t u ρ n = M.bind (t ρ) (fun b => selB b (M.pure true) (u ρ)) n := (rfl)
@[simp] theorem tNotD_ap (t : TX) (ρ : Env) (n : Int) : tNotD t ρ n = M.bind (t ρ) (fun b => M.pure (!b)) n := (rfl)
@[simp] theorem tYesD_ap (ρ : Env) (n : Int) : tYesD ρ n = some (.ok true, n) := (rfl)
@[simp] theorem dBool_bl (b : Bool) : dBool (.bl b) = some b := (rfl)
@[simp] theorem dTru_bl (b : Bool) : dTru (.bl b) = some b := (rfl)
@[simp] theorem isNon_non : isNon .non = true := (rfl)
@[simp] theorem isNon_int (i : Int) : isNon (.int i) = false := (rfl)
@[simp] theorem isNon_tup (xs : List D) : isNon (.tup xs) = false := (rfl)
@[simp] theorem sNx_ap (ρ : Env) (n : Int) : sNx ρ n = some (.ok (.nx ρ), n) := (rfl)
@[simp] theorem sSeq_ap (g h : SX) (ρ : Env) (n : Int) : sSeq g h ρ n = M.bind (g ρ) (seqK h) n := (rfl)
@[simp] theorem sRet_ap (f : EX) (ρ : Env) (n : Int) : sRet f ρ n = M.bind (f ρ) (fun d => M.pure (.ret d)) n := (rfl)
@[simp] theorem sExp_ap (f : EX) (ρ : Env) (n : Int) : sExp f ρ n = M.bind (f ρ) (fun _ => M.pure (.nx ρ)) n := (rfl)
@[simp] theorem sAsg_ap (g : GX) (f : EX) (ρ : Env) (n : Int) : sAsg g f ρ n = M.bind (f ρ) (fun d => M.bind (M.opt (g d ρ)) fun ρ' => M.pure (.nx ρ')) n := (rfl)
@[simp] theorem sIf_ap (t : TX) (g h : SX) (ρ : Env) (n : Int) : sIf t g h ρ n = M.bind (t ρ) (fun b => selB b (g ρ) (h ρ)) n := (rfl)
@[simp] theorem sFor_ap (g : GX) (it : IX) (b : SX) (ρ : Env) (n : Int) : sFor g it b ρ n = M.bind (it ρ) (fun ds => forD g b ds ρ) n := (rfl)
@[simp] theorem sWhile_ap (m : Env → Nat) (t : TX) (b : SX) (ρ : Env) (n : Int) : sWhile m t b ρ n = whileD t b (m ρ) ρ n := (rfl)
@[simp] theorem sAug_ap (i : Nat) (op : D → D → Option D) (f : EX) (ρ : Env) (n : Int) : sAug i op f ρ n = M.bind (eVar i ρ) (fun a => M.bind (f ρ) fun b => M.bind (M.opt (op a b)) fun d => M.pure (.nx (ρ.set i (.val d)))) n := (rfl)
@[simp] theorem sUp_ap (i : Nat) (up : D → D → Option D) (f : EX) (ρ : Env) (n : Int) : sUp i up f ρ n = M.bind (f ρ) (fun d => M.bind (M.opt ((own? ρ i).bind (up d))) fun o => M.pure (.nx (ρ.set i (.own o)))) n := (rfl)
@[simp] theorem sPar_ap (is : List Nat) (f : EXs) (ρ : Env) (n : Int) : sPar is f ρ n = M.bind (f ρ) (fun ds => if ds.length = is.length then M.pure (.nx ((is.zip ds).foldl (fun r p => r.set p.1 (.val p.2)) ρ)) else M.opt none) n := (rfl)
@[simp] theorem own_0 (d : D) (r : Env) : own? (.own d :: r) 0 = some d := (rfl)
@[simp] theorem own_s (i : Nat) (s : Sl) (r : Env) : own? (s :: r) (i + 1) = own? r i := (rfl)
@[simp] theorem gV_ap (i : Nat) (d : D) (ρ : Env) : gV i d ρ = some (ρ.set i (.val d)) := (rfl)
@[simp] theorem gT_ap (g : GXs) (ds : List D) (ρ : Env) : gT g (.tup ds) ρ = g ds ρ := (rfl)
@[simp] theorem gsN_ap (ρ : Env) : gsN [] ρ = some ρ := (rfl)
@[simp] theorem gsC_ap (g : GX) (gs : GXs) (d : D) (r : List D) (ρ : Env) : gsC g gs (d :: r) ρ = (g d ρ).bind fun ρ1 => gs r ρ1 := (rfl)
@[simp] theorem iOf_ap (f : EX) (ρ : Env) (n : Int) : iOf f ρ n = M.bind (f ρ) (fun d => M.opt (dItems d)) n := (rfl)
@[simp] theorem iRng1D_ap (f : EXs) (ρ : Env) (n : Int) : iRng1D f ρ n = M.bind (f ρ) (fun ds => M.opt (dRng1 ds)) n := (rfl)
@[simp] theorem iRng2D_ap (f : EXs) (ρ : Env) (n : Int) : iRng2D f ρ n = M.bind (f ρ) (fun ds => M.opt (dRng2 ds)) n := (rfl)
@[simp] theorem dItems_tup (ds : List D) : dItems (.tup ds) = some ds := (rfl)
@[simp] theorem dItems_lst (ds : List D) : dItems (.lst ds) = some ds := (rfl)
def calmR {α : Type} (r : Option (Except Xc α × Int)) : Option (Except Xc α × Int) := match r with
  | some (.ok x, n1) => some (.ok x, n1)
  | _ => none
@[simp] theorem calmR_ok {α : Type} (x : α) (n : Int) : calmR (some (Except.ok x, n)) = some (.ok x, n) := (rfl)
@[simp] theorem calm_ap {α : Type} (a : M α) (n : Int) : M.calm a n = calmR (a n) := (rfl)
@[simp] theorem eComp_ap (vs : List Nat) (g : GX) (it : IX) (t : TX) (f : EX) (ρ : Env) (n : Int) : eComp vs g it t f ρ n = M.bind (it ρ) (fun ds => M.bind (M.calm (compD (compB vs g t f ρ) ds)) fun ys => M.opt (mkLst ys)) n := (rfl)
@[simp] theorem ownLst_0 (ds : List D) (r : Env) : ownLst 0 (.own (.lst ds) :: r) = some () := (rfl)
@[simp] theorem ownLst_s (i : Nat) (s : Sl) (r : Env) : ownLst (i + 1) (s :: r) = ownLst i r := (rfl)
@[simp] theorem sApp_ap (i : Nat) (f : EX) (ρ : Env) (n : Int) : sApp i f ρ n = M.bind (M.opt (ownLst i ρ)) (fun _ => sUp i uApp f ρ) n := (rfl)
@[simp] theorem compB_ap (vs : List Nat) (g : GX) (t : TX) (f : EX) (ρ : Env) (d : D) (n : Int) : compB vs g t f ρ d n = M.bind (M.opt (g d (hide (wipeD ρ vs)))) (fun ρ1 => M.bind (t ρ1) fun b => selB b (M.bind (f ρ1) fun y => M.pure (some y)) (M.pure none)) n := (rfl)
@[simp] theorem hide_nil : hide [] = [] := (rfl)
@[simp] theorem hide_no (r : Env) : hide (.no :: r) = .no :: hide r := (rfl)
@[simp] theorem hide_val (d : D) (r : Env) : hide (.val d :: r) = .val d :: hide r := (rfl)
@[simp] theorem hide_own (d : D) (r : Env) : hide (.own d :: r) = .no :: hide r := (rfl)
@[simp] theorem wipeD_nil (ρ : Env) : wipeD ρ [] = ρ := (rfl)
@[simp] theorem wipeD_cons (ρ : Env) (v : Nat) (vs : List Nat) : wipeD ρ (v :: vs) = (wipeD ρ vs).set v .no := (rfl)
@[simp] theorem runD_ap (N P : Nat) (g : SX) (ds : List D) (n : Int) : runD N P g ds n = M.bind (g (ds.map Sl.val ++ List.replicate (N - P) Sl.no)) runK n := (rfl)
@[simp] theorem runI_ap (N P c : Nat) (g : SX) (ds : List D) (n : Int) : runI N P c g ds n = M.bind (g (Sl.own (.obj c [] []) :: ds.map Sl.val ++ List.replicate (N - P) Sl.no)) runIK n := (rfl)
@[simp] theorem forD_nil (g : GX) (b : SX) (ρ : Env) (n : Int) : forD g b [] ρ n = some (.ok (.nx ρ), n) := (rfl)
theorem forD_cons (g : GX) (b : SX) (d : D) (ds : List D) (ρ : Env) (n : Int) : forD g b (d :: ds) ρ n = M.bind (M.opt (g d ρ)) (fun ρ1 => M.bind (b ρ1) (turnK (forD g b ds))) n := (rfl)
theorem whileD_s (t : TX) (b : SX) (m : Nat) (ρ : Env) (n : Int) : whileD t b (m + 1) ρ n = M.bind (t ρ) (fun c => selB c (M.bind (b ρ) (turnK (whileD t b m))) (M.pure (.nx ρ))) n := by
  show M.bind (t ρ) _ n = M.bind (t ρ) _ n
  congr 1
  funext c
  cases c
  · rfl
  · show M.bind (b ρ) _ = M.bind (b ρ) _
    congr 1
theorem compD_nil (b : D → M (Option D)) (n : Int) : compD b [] n = some (.ok [], n) := (rfl)
theorem compD_cons (b : D → M (Option D)) (d : D) (ds : List D) (n : Int) : compD b (d :: ds) n = M.bind (b d) (fun y => M.bind (compD b ds) fun ys => M.pure (consO y ys)) n := (rfl)
theorem small62_of {i : Int} (h : -1000000 ≤ i) (h2 : i ≤ 1000000) : small62 i = true := by
  unfold small62
  simp only [Bool.and_eq_true, decide_eq_true_eq]
  exact ⟨by omega, by omega⟩
theorem small64_of {i : Int} (h : -1000000 ≤ i) (h2 : i ≤ 1000000) : small64 i = true := by
  unfold small64
  simp only [Bool.and_eq_true, decide_eq_true_eq]
  exact ⟨by omega, by omega⟩
theorem dRng1_ok {j : Int} (h : -1000000 ≤ j) (h2 : j ≤ 1000000) : dRng1 [.int j] = some (rngD 0 j) := if_pos (small62_of h h2)
theorem dRng2_ok {i j : Int} (h : -1000000 ≤ i) (h2 : i ≤ 1000000) (h3 : -1000000 ≤ j) (h4 : j ≤ 1000000) : dRng2 [.int i, .int j] = some (rngD i j) := if_pos (by rw [small62_of h h2, small62_of h3 h4]; rfl)
theorem szl : sizeLine = 16777216 := sizeLine_eq
@[simp] theorem mkTup_of {ds : List D} (h : ds.length ≤ 16777216) : mkTup ds = some (.tup ds) := by
  unfold mkTup gz; rw [sizeLine_eq, decide_eq_true h]; rfl
@[simp] theorem mkLst_of {ds : List D} (h : ds.length ≤ 16777216) : mkLst ds = some (.lst ds) := by
  unfold mkLst gz; rw [sizeLine_eq, decide_eq_true h]; rfl
/-! ### comprehensions, loops -/
/-- a comprehension whose elements don't draw -/
theorem compD_map (b : D → M (Option D)) (f : D → Option D) (n : Int) : ∀ ds : List D, (∀ d ∈ ds, b d n = some (.ok (f d), n)) → compD b ds n = some (.ok (ds.filterMap f), n)
  | [], _ => rfl
  | d :: ds, h => by
    have h1 := h d List.mem_cons_self
    have h2 := compD_map b f n ds fun x hx => h x (List.mem_cons_of_mem _ hx)
    rw [compD_cons]
    simp only [bind_ap, h1, h2, pure_ap, List.filterMap_cons, bindR_ok]
    cases f d <;> rfl
/-- a loop that searches: it leaves with a value at the first hit -/
theorem forD_find (i : Nat) (b : SX) (p : D → Bool) (r : D → D) (ρ : Env) (n : Int) : ∀ (ds : List D) (s0 : Sl), (∀ d ∈ ds, b (ρ.set i (.val d)) n = some (.ok (if p d then .ret (r d) else .nx (ρ.set i (.val d))), n)) →
    ∃ s, forD (gV i) b ds (ρ.set i s0) n = some (.ok (findK (ds.find? p) r (ρ.set i s)), n)
  | [], s0, _ => ⟨s0, rfl⟩
  | d :: ds, s0, h => by
    have h1 := h d List.mem_cons_self
    obtain ⟨s, h2⟩ := forD_find i b p r ρ n ds (.val d) fun x hx => h x (List.mem_cons_of_mem _ hx)
    rw [forD_cons]
    simp only [bind_ap, gV_ap, opt_some, List.set_set, h1, bindR_ok]
    cases hp : p d with
    | true => exact ⟨s0, by simp [hp]⟩
    | false => exact ⟨s, by simp [hp, h2]⟩
/-- a loop that checks: it goes through -/
theorem forD_all (i : Nat) (b : SX) (ρ : Env) (n : Int) (ds : List D) (s0 : Sl) (h : ∀ d ∈ ds, b (ρ.set i (.val d)) n = some (.ok (.nx (ρ.set i (.val d))), n)) :
    ∃ s, forD (gV i) b ds (ρ.set i s0) n = some (.ok (.nx (ρ.set i s)), n) := by
  obtain ⟨s, e⟩ := forD_find i b (fun _ => false) (fun d => d) ρ n ds s0 (fun d hd => by rw [h d hd]; rfl)
  refine ⟨s, ?_⟩
  rw [e]
  have : ds.find? (fun _ => false) = none := by simp
  rw [this, findK_none]
theorem mem_rngD {d : D} {lo hi : Int} (h : d ∈ rngD lo hi) : ∃ i : Int, d = .int i ∧ lo ≤ i ∧ i < hi := by
  unfold rngD at h
  obtain ⟨k, hk, e⟩ := List.mem_map.mp h
  rw [List.mem_range] at hk
  exact ⟨lo + k, e.symm, by omega, by omega⟩

/-! ### data that is compared -/
class PyE (α : Type) where
  enc : α → D
  py : α → PyData
  to : ∀ x, toPy (enc x) = some (py x)
  lay : ∀ x, (py x).canLay0 = true
  dep : ∀ x, (py x).depth ≤ 8
  eqv : ∀ x y, PyData.eqv (py x) (py y) = true ↔ x = y
theorem PyE.toAll {α : Type} [PyE α] : ∀ xs : List α, toPys (xs.map PyE.enc) = some (xs.map PyE.py)
  | [] => by simp [toPys]
  | x :: xs => by
    rw [List.map_cons, List.map_cons]
    unfold toPys
    rw [PyE.to, PyE.toAll xs]
theorem PyE.layAll {α : Type} [PyE α] : ∀ xs : List α, PyData.canLayAll0 (xs.map PyE.py) = true
  | [] => by simp [PyData.canLayAll0]
  | x :: xs => by
    rw [List.map_cons]
    unfold PyData.canLayAll0
    rw [PyE.lay, PyE.layAll xs]; rfl
theorem PyE.depAll {α : Type} [PyE α] : ∀ xs : List α, PyData.depthAll (xs.map PyE.py) ≤ 8
  | [] => by simp [PyData.depthAll]
  | x :: xs => by
    rw [List.map_cons]
    unfold PyData.depthAll
    have := PyE.dep x
    have := PyE.depAll xs
    omega
theorem PyE.eqvAll {α : Type} [PyE α] : ∀ xs ys : List α, PyData.eqvAll (xs.map PyE.py) (ys.map PyE.py) = true ↔ xs = ys
  | [], [] => by simp [PyData.eqvAll]
  | [], y :: ys => by simp [PyData.eqvAll]
  | x :: xs, [] => by simp [PyData.eqvAll]
  | x :: xs, y :: ys => by
    rw [List.map_cons, List.map_cons]
    unfold PyData.eqvAll
    rw [Bool.and_eq_true, PyE.eqv, PyE.eqvAll xs ys]
    simp
theorem PyE.shaped {α : Type} [PyE α] (x : α) : SeqAt.shaped (PyE.py x) = true := by
  unfold SeqAt.shaped
  have := PyE.dep x
  rw [PyE.lay]; simp; omega
theorem bool_dec {b : Bool} {p : Prop} [Decidable p] (h : b = true ↔ p) : b = decide p := by
  by_cases q : p
  · rw [decide_eq_true q]; exact h.mpr q
  · rw [decide_eq_false q]
    cases b with
    | true => exact absurd (h.mp rfl) q
    | false => rfl
theorem dEqB_enc {α : Type} [PyE α] [DecidableEq α] (x y : α) : dEqB (PyE.enc x) (PyE.enc y) = some (decide (x = y)) := by
  unfold dEqB
  simp only [PyE.to, PyE.shaped, Bool.and_self, if_true]
  rw [bool_dec (PyE.eqv x y)]
theorem dEq_enc {α : Type} [PyE α] [DecidableEq α] (x y : α) : dEq (PyE.enc x) (PyE.enc y) = some (.bl (decide (x = y))) := by
  unfold dEq; rw [dEqB_enc]
theorem dNe_enc {α : Type} [PyE α] [DecidableEq α] (x y : α) : dNe (PyE.enc x) (PyE.enc y) = some (.bl (!decide (x = y))) := by
  unfold dNe; rw [dEqB_enc]
/-- tuples and lists of such -/
def encT {α : Type} [PyE α] (xs : List α) : D := .tup (xs.map PyE.enc)
def encL {α : Type} [PyE α] (xs : List α) : D := .lst (xs.map PyE.enc)
theorem dEqB_T {α : Type} [PyE α] [DecidableEq α] (x y : List α) : dEqB (encT x) (encT y) = some (decide (x = y)) := by
  unfold dEqB encT
  have s : ∀ x : List α, SeqAt.shaped (.tuple (x.map PyE.py)) = true := fun x => by
    unfold SeqAt.shaped PyData.canLay0 PyData.depth
    have := PyE.depAll x
    rw [PyE.layAll]; simp; omega
  unfold toPy
  rw [PyE.toAll, PyE.toAll]
  simp only [s, Bool.and_self, if_true]
  unfold PyData.eqv
  rw [bool_dec (PyE.eqvAll x y)]
theorem dEqB_L {α : Type} [PyE α] [DecidableEq α] (x y : List α) : dEqB (encL x) (encL y) = some (decide (x = y)) := by
  unfold dEqB encL
  have s : ∀ x : List α, SeqAt.shaped (.list (x.map PyE.py)) = true := fun x => by
    unfold SeqAt.shaped PyData.canLay0 PyData.depth
    have := PyE.depAll x
    rw [PyE.layAll]; simp; omega
  unfold toPy
  rw [PyE.toAll, PyE.toAll]
  simp only [s, Bool.and_self, if_true]
  unfold PyData.eqv
  rw [bool_dec (PyE.eqvAll x y)]
theorem dEq_T {α : Type} [PyE α] [DecidableEq α] (x y : List α) : dEq (encT x) (encT y) = some (.bl (decide (x = y))) := by unfold dEq; rw [dEqB_T]
theorem dNe_T {α : Type} [PyE α] [DecidableEq α] (x y : List α) : dNe (encT x) (encT y) = some (.bl (!decide (x = y))) := by unfold dNe; rw [dEqB_T]
theorem dEq_L {α : Type} [PyE α] [DecidableEq α] (x y : List α) : dEq (encL x) (encL y) = some (.bl (decide (x = y))) := by unfold dEq; rw [dEqB_L]
theorem dNe_L {α : Type} [PyE α] [DecidableEq α] (x y : List α) : dNe (encL x) (encL y) = some (.bl (!decide (x = y))) := by unfold dNe; rw [dEqB_L]
instance : PyE Int where
  enc := D.int
  py := PyData.int
  to := fun x => by unfold toPy; rfl
  lay := fun x => by unfold PyData.canLay0; rfl
  dep := fun x => by unfold PyData.depth; omega
  eqv := fun x y => by unfold PyData.eqv; simp
@[simp] theorem dEq_int (i j : Int) : dEq (.int i) (.int j) = some (.bl (decide (i = j))) := dEq_enc (α := Int) i j
@[simp] theorem dNe_int (i j : Int) : dNe (.int i) (.int j) = some (.bl (!decide (i = j))) := dNe_enc (α := Int) i j
@[simp] theorem dLt_int (i j : Int) : dLt (.int i) (.int j) = some (.bl (decide (i < j))) := (rfl)
@[simp] theorem dLe_int (i j : Int) : dLe (.int i) (.int j) = some (.bl (decide (i ≤ j))) := (rfl)
@[simp] theorem dGt_int (i j : Int) : dGt (.int i) (.int j) = some (.bl (decide (j < i))) := (rfl)
@[simp] theorem dGe_int (i j : Int) : dGe (.int i) (.int j) = some (.bl (decide (j ≤ i))) := (rfl)
@[simp] theorem dAdd_int (i j : Int) : dAdd (.int i) (.int j) = some (.int (i + j)) := (rfl)
@[simp] theorem dSub_int (i j : Int) : dSub (.int i) (.int j) = some (.int (i - j)) := (rfl)
@[simp] theorem dNeg_int (i : Int) : dNeg (.int i) = some (.int (-i)) := (rfl)
theorem dMul_int {i j : Int} (h : small64 i = true ∨ small64 j = true) : dMul (.int i) (.int j) = some (.int (i * j)) := by
  exact if_pos (by rw [Bool.or_eq_true]; exact h)
theorem dMod_int {i j : Int} (h : 0 < j) : dMod (.int i) (.int j) = some (.int (i % j)) := by
  exact if_pos (decide_eq_true h)
theorem dDiv_int {i j : Int} (h : 0 < j) (h2 : j < 1073741824) : dDiv (.int i) (.int j) = some (.int (i / j)) := by
  exact if_pos (by simp only [Bool.and_eq_true, decide_eq_true_eq]; exact ⟨h, h2⟩)
@[simp] theorem dLen_tup (xs : List D) : dLen [.tup xs] = some (.int xs.length) := (rfl)
@[simp] theorem dLen_lst (xs : List D) : dLen [.lst xs] = some (.int xs.length) := (rfl)
@[simp] theorem dLen_T {α : Type} [PyE α] (xs : List α) : dLen [encT xs] = some (.int xs.length) := by simp [encT]
theorem dAdd_T {α : Type} [PyE α] {xs ys : List α} (h : xs.length + ys.length ≤ 16777216) : dAdd (encT xs) (encT ys) = some (encT (xs ++ ys)) := by
  unfold dAdd encT
  simp only [← List.map_append]
  rw [mkTup_of (by simpa using h)]
theorem rep_map {α β : Type} (f : α → β) (xs : List α) (k : Nat) : (List.replicate k (xs.map f)).flatten = ((List.replicate k xs).flatten).map f := by
  induction k with
  | zero => rfl
  | succ k ih => rw [List.replicate_succ, List.replicate_succ, List.flatten_cons, List.flatten_cons, ih, List.map_append]
/-- xs, k times -/
def pw {α : Type} (xs : List α) (k : Nat) : List α := (List.replicate k xs).flatten
theorem pw_zero {α : Type} (xs : List α) : pw xs 0 = [] := rfl
theorem pw_succ {α : Type} (xs : List α) (k : Nat) : pw xs (k + 1) = xs ++ pw xs k := by unfold pw; rw [List.replicate_succ, List.flatten_cons]
theorem pw_length {α : Type} (xs : List α) : ∀ k : Nat, (pw xs k).length = k * xs.length
  | 0 => by simp [pw_zero]
  | k + 1 => by rw [pw_succ, List.length_append, pw_length xs k, Nat.succ_mul]; omega
theorem dMul_T {α : Type} [PyE α] {xs : List α} {k : Nat} (h : k ≤ 1000) (h2 : xs.length ≤ 1000) : dMul (encT xs) (.int k) = some (encT (pw xs k)) := by
  unfold dMul encT pw
  have a : ((xs.length : Nat) : Int) * (k : Int) ≤ 1000000 := by
    have : xs.length * k ≤ 1000 * 1000 := Nat.mul_le_mul h2 h
    have : ((xs.length * k : Nat) : Int) ≤ 1000000 := by omega
    rw [Int.natCast_mul] at this; exact this
  refine (if_pos (by simp only [List.length_map, Bool.and_eq_true, decide_eq_true_eq]; exact ⟨⟨by omega, by omega⟩, a⟩)).trans ?_
  rw [Int.toNat_natCast, rep_map]
theorem cut_map {α : Type} [PyE α] (xs : List α) (lo hi : Option Int) : dCut (encT xs) lo hi = some (encT ((xs.drop (HT.sIx xs.length 0 lo)).take (HT.sIx xs.length xs.length hi - HT.sIx xs.length 0 lo))) := by
  unfold dCut encT cutD
  simp only [List.length_map, List.map_take, List.map_drop]
theorem sIx_neg1 (n d : Nat) : HT.sIx n d (some (-1)) = n - 1 := by
  unfold HT.sIx
  simp
  omega
@[simp] theorem cut_from {α : Type} [PyE α] (xs : List α) (k : Nat) : dCut (encT xs) (some (k : Int)) none = some (encT (xs.drop k)) := by
  rw [cut_map, HT.sIx_nat, HT.sIx_none]
  congr 2
  by_cases h : k ≤ xs.length
  · rw [Nat.min_eq_left h, List.take_of_length_le (by simp)]
  · rw [Nat.min_eq_right (by omega), List.drop_eq_nil_of_le (by omega), List.drop_eq_nil_of_le (by omega)]; simp
@[simp] theorem cut_to {α : Type} [PyE α] (xs : List α) (k : Nat) : dCut (encT xs) none (some (k : Int)) = some (encT (xs.take k)) := by
  rw [cut_map, HT.sIx_nat, HT.sIx_none]
  congr 2
  simp only [List.drop_zero, Nat.sub_zero]
  by_cases h : k ≤ xs.length
  · rw [Nat.min_eq_left h]
  · rw [Nat.min_eq_right (by omega), List.take_of_length_le (by omega), List.take_of_length_le (by omega)]
@[simp] theorem cut_last {α : Type} [PyE α] (xs : List α) : dCut (encT xs) (some (-1)) none = some (encT (xs.drop (xs.length - 1))) := by
  rw [cut_map, sIx_neg1, HT.sIx_none]
  congr 2
  rw [List.take_of_length_le (by simp)]
@[simp] theorem cut_init {α : Type} [PyE α] (xs : List α) : dCut (encT xs) none (some (-1)) = some (encT xs.dropLast) := by
  rw [cut_map, sIx_neg1, HT.sIx_none]
  congr 2
  rw [List.drop_zero, Nat.sub_zero, List.dropLast_eq_take]
theorem ix_last {α : Type} [PyE α] {xs : List α} {x : α} (h : xs.getLast? = some x) : dIx (encT xs) (.int (-1)) = some (PyE.enc x) := by
  unfold dIx encT
  rw [List.getLast?_eq_some_iff] at h
  obtain ⟨ys, rfl⟩ := h
  rw [List.map_append]
  exact atI_last _ _
theorem ix_nat {α : Type} [PyE α] {xs : List α} {x : α} {j : Nat} (h : xs[j]? = some x) : dIx (encT xs) (.int (j : Int)) = some (PyE.enc x) := by
  unfold dIx encT
  exact atI_nat (by rw [List.getElem?_map, h]; rfl)
theorem dNe_nil {α : Type} [PyE α] [DecidableEq α] (xs : List α) : dNe (encT xs) (.tup []) = some (.bl (!decide (xs = []))) := dNe_T xs []
theorem dEq_nil {α : Type} [PyE α] [DecidableEq α] (xs : List α) : dEq (encT xs) (.tup []) = some (.bl (decide (xs = []))) := dEq_T xs []
theorem ix_lastc {α : Type} [PyE α] (xs : List α) (x : α) : dIx (encT (xs ++ [x])) (.int (-1)) = some (PyE.enc x) := ix_last (by simp)
theorem cut_lastc {α : Type} [PyE α] (xs : List α) (x : α) : dCut (encT (xs ++ [x])) (some (-1)) none = some (encT [x]) := by
  rw [cut_last]
  congr 2
  simp
theorem cut_initc {α : Type} [PyE α] (xs : List α) (x : α) : dCut (encT (xs ++ [x])) none (some (-1)) = some (encT xs) := by
  rw [cut_init, List.dropLast_concat]
/-- a loop by what holds between two turns -/
theorem forD_inv (g : GX) (b : SX) (I : Env → Int → Prop) : ∀ (ds : List D), (∀ d ∈ ds, ∀ ρ n, I ρ n → ∃ ρ1 ρ2 n2, g d ρ = some ρ1 ∧ b ρ1 n = some (.ok (.nx ρ2), n2) ∧ I ρ2 n2) → ∀ ρ n, I ρ n → ∃ ρ' n', forD g b ds ρ n = some (.ok (.nx ρ'), n') ∧ I ρ' n'
  | [], _, ρ, n, h => ⟨ρ, n, rfl, h⟩
  | d :: ds, hb, ρ, n, h => by
    obtain ⟨ρ1, ρ2, n2, h1, h2, h3⟩ := hb d List.mem_cons_self ρ n h
    obtain ⟨ρ', n', h4, h5⟩ := forD_inv g b I ds (fun x hx => hb x (List.mem_cons_of_mem _ hx)) ρ2 n2 h3
    exact ⟨ρ', n', by rw [forD_cons]; simp [h1, h2, h4], h5⟩
/-- a comprehension whose elements may draw -/
theorem compD_ex {α : Type} [PyE α] (b : D → M (Option D)) : ∀ (ds : List D) (n : Int), (∀ d ∈ ds, ∀ n, ∃ x : α, ∃ n', b d n = some (.ok (some (PyE.enc x)), n')) → ∃ xs : List α, ∃ n', compD b ds n = some (.ok (xs.map PyE.enc), n') ∧ xs.length = ds.length
  | [], n, _ => ⟨[], n, rfl, rfl⟩
  | d :: ds, n, h => by
    obtain ⟨x, n1, h1⟩ := h d List.mem_cons_self n
    obtain ⟨xs, n2, h2, h3⟩ := compD_ex b ds n1 fun y hy => h y (List.mem_cons_of_mem _ hy)
    exact ⟨x :: xs, n2, by rw [compD_cons]; simp [h1, h2], by simp [h3]⟩
theorem rngD_length (lo hi : Int) : (rngD lo hi).length = (hi - lo).toNat := by simp [rngD]
theorem dEqB_bl (a b : Bool) : dEqB (.bl a) (.bl b) = some (a == b) := by
  unfold dEqB toPy
  have s : ∀ a : Bool, SeqAt.shaped (.bool a) = true := fun a => by cases a <;> decide +kernel
  simp only [s, Bool.and_self, if_true]
  unfold PyData.eqv
  rfl
@[simp] theorem dNe_bl (a b : Bool) : dNe (.bl a) (.bl b) = some (.bl (!(a == b))) := by unfold dNe; rw [dEqB_bl]
@[simp] theorem dEq_bl (a b : Bool) : dEq (.bl a) (.bl b) = some (.bl (a == b)) := by unfold dEq; rw [dEqB_bl]
@[simp] theorem dNe_non : dNe .non .non = some (.bl false) := by
  have : dEqB .non .non = some true := by unfold dEqB toPy; decide +kernel
  unfold dNe; rw [this]; rfl
end DL
end

section
set_option Elab.async false
set_option linter.all false
set_option autoImplicit false
set_option maxRecDepth 100000
/-! evaluating what DL17 .. DL24 added -/
namespace DL
open PySem L2
@[simp] theorem eOwn2_ap (c : Nat) (fx : FX) (fa fb : EX) (ρ : Env) (n : Int) : eOwn2 c fx fa fb ρ n = M.bind (fa ρ) (fun x => M.bind (fb ρ) fun y => if isC c x && isC c y then fx [x, y] else M.opt none) n := (rfl)
@[simp] theorem e2M_ap (op : D → D → M D) (fa fb : EX) (ρ : Env) (n : Int) : e2M op fa fb ρ n = M.bind (fa ρ) (fun x => M.bind (fb ρ) fun y => M.calm (op x y)) n := (rfl)
@[simp] theorem e1M_ap (op : D → M D) (fa : EX) (ρ : Env) (n : Int) : e1M op fa ρ n = M.bind (fa ρ) (fun x => M.calm (op x)) n := (rfl)
@[simp] theorem mOwn_ap (c : Nat) (fx : FX) (x y : D) : mOwn c fx x y = if isC c x && isC c y then fx [x, y] else M.opt none := (rfl)
@[simp] theorem mOwn1_ap (c : Nat) (fx : FX) (x : D) : mOwn1 c fx x = if isC c x then fx [x] else M.opt none := (rfl)
def optK (g : Bool → Bool) (d : D) : Option D := match dBool d with | some t => some (.bl (g t)) | none => none
@[simp] theorem optK_bl (g : Bool → Bool) (b : Bool) : optK g (.bl b) = some (.bl (g b)) := (rfl)
theorem optK_eq (g : Bool → Bool) (d : D) : (dBool d).map (fun t => D.bl (g t)) = optK g d := by unfold optK; cases dBool d <;> rfl
@[simp] theorem mOwnIn_ap (c : Nat) (fx : FX) (g : Bool → Bool) (x y : D) : mOwnIn c fx g x y = if isC c y then M.bind (fx [y, x]) (fun d => M.opt (optK g d)) else M.opt none := by
  unfold mOwnIn
  simp only [optK_eq]
@[simp] theorem tOwn_ap (c : Nat) (fx : FX) (fa : EX) (ρ : Env) (n : Int) : tOwn c fx fa ρ n = M.bind (e1M (mOwn1 c fx) fa ρ) (fun d => M.opt (dBool d)) n := (rfl)
@[simp] theorem eNotT_ap (t : TX) (ρ : Env) (n : Int) : eNotT t ρ n = M.bind (t ρ) (fun b => M.pure (.bl (!b))) n := (rfl)
@[simp] theorem eBoolO_ap (t : TX) (ρ : Env) (n : Int) : eBoolO t ρ n = M.bind (t ρ) (fun b => M.pure (.bl b)) n := (rfl)
@[simp] theorem iZipD_ap (f : EXs) (ρ : Env) (n : Int) : iZipD f ρ n = M.bind (f ρ) (fun ds => M.opt (dZip ds)) n := (rfl)
@[simp] theorem sOwnN_ap (i : Nat) (f : EXs) (ρ : Env) (n : Int) : sOwnN i f ρ n = M.bind (f ρ) (fun ds => M.pure (.nx (ρ.set i (.own (.lst ds))))) n := (rfl)
def cutK (l h : Option Int) (x : D) : Option (List D) := match x with | .lst xs => some (cutD xs l h) | _ => none
@[simp] theorem cutK_lst (l h : Option Int) (xs : List D) : cutK l h (.lst xs) = some (cutD xs l h) := (rfl)
@[simp] theorem nCut_ap (f : EX) (lo hi : EO) (ρ : Env) (n : Int) : nCut f lo hi ρ n = M.bind (f ρ) (fun x => M.bind (lo ρ) fun l => M.bind (hi ρ) fun h => M.opt (cutK l h x)) n := (rfl)
@[simp] theorem nLst_ap (f : EXs) (ρ : Env) (n : Int) : nLst f ρ n = M.bind (f ρ) (fun ds => M.opt (if gz ds then some ds else none)) n := (rfl)
@[simp] theorem sFrz_ap (i : Nat) (ρ : Env) (n : Int) : sFrz i ρ n = M.bind (M.opt (frzE i ρ)) (fun ρ' => M.pure (.nx ρ')) n := (rfl)
theorem gz_of {ds : List D} (h : ds.length ≤ 16777216) : (if gz ds then some ds else none) = some ds := by
  have : mkLst ds = some (.lst ds) := mkLst_of h
  unfold mkLst at this
  split at this
  · rename_i h; rw [if_pos h]
  · cases this
end DL
end

section
set_option Elab.async false
set_option linter.all false
set_option autoImplicit false
set_option maxRecDepth 100000
/-! evaluating what DL25 .. DL31 added -/
namespace DL
open PySem L2
@[simp] theorem eIxT_ap (fa : EX) (fs : EXs) (ρ : Env) (n : Int) : eIxT fa fs ρ n = M.bind (fa ρ) (fun x => M.bind (fs ρ) fun ys => M.opt (valT x ys)) n := (rfl)
@[simp] theorem sPutT_ap (i : Nat) (fs : EXs) (fv : EX) (ρ : Env) (n : Int) : sPutT i fs fv ρ n = M.bind (fv ρ) (fun d => M.bind (M.opt (own? ρ i)) fun _ => M.bind (fs ρ) fun ys => M.bind (M.opt ((own? ρ i).bind (dPutT ys d))) fun o => M.pure (.nx (ρ.set i (.own o)))) n := (rfl)
@[simp] theorem sOwn2_ap (i j : Nat) (d e : D) (ρ : Env) (n : Int) : sOwn2 i j d e ρ n = some (.ok (.nx ((ρ.set i (.own d)).set j (.own e))), n) := (rfl)
@[simp] theorem sOwn_ap (i : Nat) (d : D) (ρ : Env) (n : Int) : sOwn i d ρ n = some (.ok (.nx (ρ.set i (.own d))), n) := (rfl)
@[simp] theorem nComp_ap (vs : List Nat) (g : GX) (it : IX) (t : TX) (f : EX) (ρ : Env) (n : Int) : nComp vs g it t f ρ n = M.bind (it ρ) (fun ds => M.bind (M.calm (compD (compB vs g t f ρ) ds)) fun ys => M.opt (if gz ys then some ys else none)) n := (rfl)
@[simp] theorem nAdd_ap (fa fb : EX) (ρ : Env) (n : Int) : nAdd fa fb ρ n = M.bind (fa ρ) (fun x => M.bind (fb ρ) fun y => M.opt (catL x y)) n := (rfl)
@[simp] theorem eIdx_ap (fa fb : EX) (ρ : Env) (n : Int) : eIdx fa fb ρ n = M.bind (fa ρ) (fun x => M.bind (M.opt (isLst x)) fun _ => M.bind (fb ρ) fun y => M.opt (dIdx x y)) n := (rfl)
@[simp] theorem isLst_lst (ds : List D) : isLst (.lst ds) = some () := (rfl)
theorem catL_of {xs ys : List D} (h : xs.length + ys.length ≤ 16777216) : catL (.lst xs) (.lst ys) = some (xs ++ ys) := by
  unfold catL
  exact gz_of (by rw [List.length_append]; exact h)
/-- what was lent comes back -/
theorem lend_of {i : Nat} {f : EX} {ρ : Env} {n n1 : Int} {d0 d : D} (h0 : own? ρ i = some d0) (h1 : dictD d0 = true) (h2 : ndBut i ρ = true) (h3 : f (ρ.set i (.val d0)) n = some (.ok d, n1)) (h4 : ndD d = true) : eLend i f ρ n = some (.ok d, n1) := by
  unfold eLend
  rw [h0]
  simp only [h1, h2, Bool.and_self, if_true, h3, h4]
theorem inP_L {α : Type} [PyE α] [DecidableEq α] (x : α) (xs : List α) : inP (PyE.enc x) (encL xs) = some (decide (x ∈ xs)) := by
  unfold inP encL
  simp only [PyE.to, PyE.toAll]
  have s : ∀ x : List α, SeqAt.shaped (.list (x.map PyE.py)) = true := fun x => by
    unfold SeqAt.shaped PyData.canLay0 PyData.depth
    have := PyE.depAll x
    rw [PyE.layAll]; simp; omega
  rw [PyE.shaped, s]
  simp only [Bool.and_self, if_true]
  congr 1
  refine bool_dec ?_
  rw [List.any_eq_true]
  constructor
  · rintro ⟨p, hp, e⟩
    obtain ⟨y, hy, rfl⟩ := List.mem_map.mp hp
    rw [PyE.eqv] at e
    rw [← e]
    exact hy
  · intro h
    exact ⟨PyE.py x, List.mem_map.mpr ⟨x, h, rfl⟩, (PyE.eqv x x).mpr rfl⟩
theorem dInD_L {α : Type} [PyE α] [DecidableEq α] (x : α) (xs : List α) : dInD (PyE.enc x) (encL xs) = some (.bl (decide (x ∈ xs))) := by unfold dInD; rw [inP_L]
theorem dNiD_L {α : Type} [PyE α] [DecidableEq α] (x : α) (xs : List α) : dNiD (PyE.enc x) (encL xs) = some (.bl (!decide (x ∈ xs))) := by unfold dNiD; rw [inP_L]
end DL
end

section
set_option Elab.async false
set_option linter.all false
set_option autoImplicit false
set_option maxRecDepth 100000
/-! evaluating what DL32 added; loops -/
namespace DL
open PySem L2
@[simp] theorem eOwnIx_ap (i : Nat) (fk : EX) (ρ : Env) (n : Int) : eOwnIx i fk ρ n = M.bind (M.opt (ownLst i ρ)) (fun _ => M.bind (fk ρ) fun k => M.opt ((own? ρ i).bind fun d => dIx d k)) n := (rfl)
@[simp] theorem sPutL_ap (i : Nat) (fk fv : EX) (ρ : Env) (n : Int) : sPutL i fk fv ρ n = M.bind (fv ρ) (fun d => M.bind (M.opt (ownLst i ρ)) fun _ => M.bind (fk ρ) fun k => M.bind (M.opt ((own? ρ i).bind (uSet k d))) fun o => M.pure (.nx (ρ.set i (.own o)))) n := (rfl)
@[simp] theorem sExtM_ap (i : Nat) (f : EX) (ρ : Env) (n : Int) : sExtM i f ρ n = M.bind (M.opt (ownLst i ρ)) (fun _ => sUp i uExt f ρ) n := (rfl)
@[simp] theorem sExt_ap (i : Nat) (f : EX) (ρ : Env) (n : Int) : sExt i f ρ n = M.bind (M.opt (ownLst i ρ)) (fun _ => sUp i uExt f ρ) n := (rfl)
@[simp] theorem sBk_ap (ρ : Env) (n : Int) : sBk ρ n = some (.ok (.bk ρ), n) := (rfl)
theorem uSet_ok {k : Nat} {d : D} {ds : List D} (h : k < ds.length) : uSet (.int (k : Int)) d (.lst ds) = some (.lst (ds.set k d)) := by
  unfold uSet
  have : ixN ds.length (k : Int) = some k := by
    unfold ixN
    rw [if_pos (by omega), if_pos (by omega), Int.toNat_natCast]
  simp only [this]
theorem uExt_ok {xs ys : List D} (h : xs.length + ys.length ≤ 16777216) : uExt (.lst ys) (.lst xs) = some (.lst (xs ++ ys)) := by
  unfold uExt
  rw [szl]
  exact if_pos h
theorem dMulL_ok {xs : List D} {k : Nat} (h : k ≤ 1000) (h2 : xs.length ≤ 1000) : dMulL (.lst xs) (.int (k : Int)) = some (.lst (pw xs k)) := by
  have a : xs.length * k ≤ 1000 * 1000 := Nat.mul_le_mul h2 h
  exact (if_pos (by simp only [Int.toNat_natCast, Bool.and_eq_true, decide_eq_true_eq]; exact ⟨⟨by omega, by omega⟩, by omega⟩)).trans (by rw [Int.toNat_natCast]; rfl)
theorem pw_map {α β : Type} (f : α → β) (xs : List α) (k : Nat) : pw (xs.map f) k = (pw xs k).map f := rep_map f xs k
theorem dMulL_L {α : Type} [PyE α] {xs : List α} {k : Nat} (h : k ≤ 1000) (h2 : xs.length ≤ 1000) : dMulL (encL xs) (.int (k : Int)) = some (encL (pw xs k)) := by
  unfold encL
  rw [dMulL_ok h (by rw [List.length_map]; exact h2), pw_map]
theorem ixL_nat {xs : List D} {x : D} {j : Nat} (h : xs[j]? = some x) : dIx (.lst xs) (.int (j : Int)) = some x := atI_nat h
theorem ixAL_nat {xs : List D} {x : D} {j : Nat} (h : xs[j]? = some x) : dIxA (.lst xs) (.int (j : Int)) = some x := atI_nat h
/-- a loop that checks: through, or out with False at the first that fails -/
theorem forD_chk (g : GX) (b : SX) (P : D → Bool) (I : Env → Prop) (n : Int) : ∀ (ds : List D), (∀ d ∈ ds, ∀ ρ, I ρ → ∃ ρ1, g d ρ = some ρ1 ∧ (P d = true → ∃ ρ2, b ρ1 n = some (.ok (.nx ρ2), n) ∧ I ρ2) ∧ (P d = false → b ρ1 n = some (.ok (.ret (.bl false)), n))) →
    ∀ ρ, I ρ → (ds.all P = true → ∃ ρ', forD g b ds ρ n = some (.ok (.nx ρ'), n) ∧ I ρ') ∧ (ds.all P = false → forD g b ds ρ n = some (.ok (.ret (.bl false)), n))
  | [], _, ρ, h => ⟨fun _ => ⟨ρ, rfl, h⟩, fun e => by simp at e⟩
  | d :: ds, hb, ρ, h => by
    obtain ⟨ρ1, h1, h2, h3⟩ := hb d List.mem_cons_self ρ h
    rw [forD_cons]
    cases hp : P d with
    | true =>
      obtain ⟨ρ2, h4, h5⟩ := h2 hp
      obtain ⟨k1, k2⟩ := forD_chk g b P I n ds (fun x hx => hb x (List.mem_cons_of_mem _ hx)) ρ2 h5
      rw [List.all_cons, hp, Bool.true_and]
      refine ⟨fun e => ?_, fun e => ?_⟩
      · obtain ⟨ρ', h6, h7⟩ := k1 e
        exact ⟨ρ', by simp [h1, h4, h6], h7⟩
      · simp [h1, h4, k2 e]
    | false =>
      rw [List.all_cons, hp, Bool.false_and]
      exact ⟨(fun e => by cases e), (fun _ => by simp [h1, h3 hp])⟩
end DL
end

section
set_option Elab.async false
set_option linter.all false
set_option autoImplicit false
set_option maxRecDepth 100000
/-! evaluating what DL33 .. DL38 added -/
namespace DL
open PySem L2
theorem dMulN_ok {i j : Int} (h : small64 i = true ∨ small64 j = true) : dMulN (.int i) (.int j) = some (.int (i * j)) := by
  exact if_pos (by rw [Bool.or_eq_true]; exact h)
@[simp] theorem eChain3_ap (o1 o2 o3 : D → D → Option D) (fa fb fc fd : EX) (ρ : Env) (n : Int) : eChain3 o1 o2 o3 fa fb fc fd ρ n = M.bind (fa ρ) (fun x => M.bind (fb ρ) fun y => M.bind (M.opt (o1 x y)) fun r => chainK (fun y z => some z) y (M.bind (fc ρ) fun z => M.bind (M.opt (o2 y z)) fun r2 => chainK o3 z (fd ρ) r2) r) n := by
  show M.bind (fa ρ) _ n = M.bind (fa ρ) _ n
  congr 1
  funext x
  show M.bind (fb ρ) _ = M.bind (fb ρ) _
  congr 1
  funext y
  show M.bind (M.opt (o1 x y)) _ = M.bind (M.opt (o1 x y)) _
  congr 1
  funext r
  cases r with
  | bl b =>
    cases b with
    | false => rfl
    | true =>
      funext k
      rw [chainK_true]
      simp only [bind_ap]
      cases fc ρ k with
      | none => rfl
      | some q =>
        obtain ⟨q1, q2⟩ := q
        cases q1 with
        | error z => rfl
        | ok z =>
          simp only [bindR_ok, bind_ap]
          cases o2 y z with
          | none => rfl
          | some r2 =>
            simp only [opt_some, bindR_ok]
            cases r2 with
            | bl b =>
              cases b with
              | false => rfl
              | true =>
                simp only [chainK_true, bind_ap]
                cases fd ρ q2 with
                | none => rfl
                | some q' =>
                  obtain ⟨q3, q4⟩ := q'
                  cases q3 with
                  | error z => rfl
                  | ok w =>
                    simp only [bindR_ok]
                    cases o3 z w <;> rfl
            | _ => rfl
  | _ => rfl
@[simp] theorem nLstOf_ap (f : EX) (ρ : Env) (n : Int) : nLstOf f ρ n = M.bind (f ρ) (fun d => M.opt (itemsLT d)) n := (rfl)
@[simp] theorem itemsLT_lst (ds : List D) : itemsLT (.lst ds) = some ds := (rfl)
@[simp] theorem itemsLT_tup (ds : List D) : itemsLT (.tup ds) = some ds := (rfl)
@[simp] theorem iEnumD_ap (f : EXs) (ρ : Env) (n : Int) : iEnumD f ρ n = M.bind (f ρ) (fun ds => M.opt (dEnum ds)) n := (rfl)
@[simp] theorem dEnum_lst (ds : List D) : dEnum [.lst ds] = some (enumD ds) := (rfl)
@[simp] theorem dEnum_tup (ds : List D) : dEnum [.tup ds] = some (enumD ds) := (rfl)
@[simp] theorem sPutL2_ap (i : Nat) (fv f1 f2 : EX) (ρ : Env) (n : Int) : sPutL2 i fv f1 f2 ρ n = M.bind (fv ρ) (fun d => M.bind (M.calm (M.bind (M.opt (two d)) fun p => M.bind (putE i f1 p.1 ρ) fun ρ1 => putE i f2 p.2 ρ1)) fun ρ2 => M.pure (.nx ρ2)) n := (rfl)
@[simp] theorem putE_ap (i : Nat) (fk : EX) (d : D) (ρ : Env) (n : Int) : putE i fk d ρ n = M.bind (M.opt (ownLst i ρ)) (fun _ => M.bind (M.calm (fk ρ)) fun k => M.bind (M.opt ((own? ρ i).bind (uSet k d))) fun o => M.pure (ρ.set i (.own o))) n := (rfl)
@[simp] theorem two_tup (a b : D) : two (.tup [a, b]) = some (a, b) := (rfl)
theorem eAlt_fst {f g : EX} {ρ : Env} {n : Int} {r : Except Xc D × Int} (h : f ρ n = some r) : eAlt f g ρ n = some r := by unfold eAlt; rw [h]
theorem eAlt_snd {f g : EX} {ρ : Env} {n : Int} (h : f ρ n = none) : eAlt f g ρ n = g ρ n := by unfold eAlt; rw [h]
theorem tAlt_fst {f g : TX} {ρ : Env} {n : Int} {r : Except Xc Bool × Int} (h : f ρ n = some r) : tAlt f g ρ n = some r := by unfold tAlt; rw [h]
theorem tAlt_snd {f g : TX} {ρ : Env} {n : Int} (h : f ρ n = none) : tAlt f g ρ n = g ρ n := by unfold tAlt; rw [h]
end DL
end

section
set_option Elab.async false
set_option linter.all false
set_option autoImplicit false
set_option maxRecDepth 100000
/-! operators, told by conditions that omega can prove -/
namespace DL
open PySem L2
theorem bindR_assoc {α β γ : Type} (r : Option (Except Xc α × Int)) (k1 : α → M β) (k2 : β → M γ) : bindR (bindR r k1) k2 = bindR r (fun x n => bindR (k1 x n) k2) := by
  cases r with
  | none => rfl
  | some p =>
    obtain ⟨x, n⟩ := p
    cases x <;> rfl
theorem lt_t {a b : Int} (h : a < b) : dLt (.int a) (.int b) = some (.bl true) := by rw [dLt_int, decide_eq_true h]
theorem lt_f {a b : Int} (h : b ≤ a) : dLt (.int a) (.int b) = some (.bl false) := by rw [dLt_int, decide_eq_false (by omega)]
theorem gt_t {a b : Int} (h : b < a) : dGt (.int a) (.int b) = some (.bl true) := by rw [dGt_int, decide_eq_true h]
theorem gt_f {a b : Int} (h : a ≤ b) : dGt (.int a) (.int b) = some (.bl false) := by rw [dGt_int, decide_eq_false (by omega)]
theorem ge_t {a b : Int} (h : b ≤ a) : dGe (.int a) (.int b) = some (.bl true) := by rw [dGe_int, decide_eq_true h]
theorem ge_f {a b : Int} (h : a < b) : dGe (.int a) (.int b) = some (.bl false) := by rw [dGe_int, decide_eq_false (by omega)]
theorem leA_int (a b : Int) : dLeA (.int a) (.int b) = some (.bl (decide (a ≤ b))) := rfl
theorem le_t {a b : Int} (h : a ≤ b) : dLeA (.int a) (.int b) = some (.bl true) := by rw [leA_int, decide_eq_true h]
theorem le_f {a b : Int} (h : b < a) : dLeA (.int a) (.int b) = some (.bl false) := by rw [leA_int, decide_eq_false (by omega)]
theorem eq_t {a b : Int} (h : a = b) : dEq (.int a) (.int b) = some (.bl true) := by rw [dEq_int, decide_eq_true h]
theorem eq_f {a b : Int} (h : a < b ∨ b < a) : dEq (.int a) (.int b) = some (.bl false) := by rw [dEq_int, decide_eq_false (by omega)]
theorem ne_t {a b : Int} (h : a < b ∨ b < a) : dNe (.int a) (.int b) = some (.bl true) := by rw [dNe_int, decide_eq_false (by omega)]; rfl
theorem ne_f {a b : Int} (h : a = b) : dNe (.int a) (.int b) = some (.bl false) := by rw [dNe_int, decide_eq_true h]; rfl
theorem mulR {i j : Int} (h : -1000000 ≤ j ∧ j ≤ 1000000) : dMul (.int i) (.int j) = some (.int (i * j)) := dMul_int (.inr (small64_of h.1 h.2))
theorem mulL {i j : Int} (h : -1000000 ≤ i ∧ i ≤ 1000000) : dMul (.int i) (.int j) = some (.int (i * j)) := dMul_int (.inl (small64_of h.1 h.2))
theorem mulNR {i j : Int} (h : -1000000 ≤ j ∧ j ≤ 1000000) : dMulN (.int i) (.int j) = some (.int (i * j)) := dMulN_ok (.inr (small64_of h.1 h.2))
theorem mulNL {i j : Int} (h : -1000000 ≤ i ∧ i ≤ 1000000) : dMulN (.int i) (.int j) = some (.int (i * j)) := dMulN_ok (.inl (small64_of h.1 h.2))
theorem rng1_nat {k : Nat} (h : k ≤ 1000000) : dRng1 [.int (k : Int)] = some ((List.range k).map fun i : Nat => D.int i) := by
  rw [dRng1_ok (by omega) (by omega)]
  unfold rngD
  simp
theorem tru_bl (b : Bool) : dTru (.bl b) = some b := (rfl)
/-- a list of whole numbers -/
def iL (xs : List Int) : D := .lst (xs.map D.int)
theorem iL_len (xs : List Int) : dLen [iL xs] = some (.int xs.length) := by simp [iL]
theorem iL_items (xs : List Int) : dItems (iL xs) = some (xs.map D.int) := rfl
theorem ixN_of {n : Nat} {i : Int} (h : 0 ≤ i ∧ i < n) : ixN n i = some i.toNat := by
  unfold ixN
  rw [if_pos h.1, if_pos h.2]
theorem iL_ix {xs : List Int} {i : Int} (h : 0 ≤ i ∧ i < xs.length) : dIx (iL xs) (.int i) = some (.int (xs.getD i.toNat 0)) := by
  obtain ⟨k, rfl⟩ : ∃ k : Nat, i = (k : Int) := ⟨i.toNat, by omega⟩
  refine ixL_nat (x := .int (xs.getD k 0)) ?_
  rw [List.getElem?_map, List.getElem?_eq_getElem (by omega), List.getD_eq_getElem?_getD, List.getElem?_eq_getElem (by omega)]
  rfl
theorem iL_ixA {xs : List Int} {i : Int} (h : 0 ≤ i ∧ i < xs.length) : dIxA (iL xs) (.int i) = some (.int (xs.getD i.toNat 0)) := iL_ix h
theorem fst2 (a b : D) : dIx (.tup [a, b]) (.int 0) = some a := (rfl)
theorem snd2 (a b : D) : dIx (.tup [a, b]) (.int 1) = some b := (rfl)
theorem fst3 (a b c : D) : dIx (.tup [a, b, c]) (.int 0) = some a := (rfl)
theorem snd3 (a b c : D) : dIx (.tup [a, b, c]) (.int 1) = some b := (rfl)
theorem trd3 (a b c : D) : dIx (.tup [a, b, c]) (.int 2) = some c := (rfl)
theorem all_nil : dAll [.lst []] = some (.bl true) := (rfl)
theorem sq {g h : SX} {ρ ρ1 : DL.Env} {n n1 : Int} {r : Option (Except Xc Out × Int)} (a : g ρ n = some (.ok (.nx ρ1), n1)) (b : h ρ1 n1 = r) : sSeq g h ρ n = r := by
  rw [sSeq_ap, bind_ap, a, bindR_ok, seqK_nx, b]
theorem sq_ret {g h : SX} {ρ : DL.Env} {d : D} {n n1 : Int} (a : g ρ n = some (.ok (.ret d), n1)) : sSeq g h ρ n = some (.ok (.ret d), n1) := by
  rw [sSeq_ap, bind_ap, a, bindR_ok, seqK_ret, pure_ap]
/-- comprehensions: over what is told, element by element -/
theorem comp_flt {α : Type} {h : α → D} {b : D → M (Option D)} {n : Int} (g : α → Option D) : ∀ {w : List α}, (∀ x ∈ w, b (h x) n = some (.ok (g x), n)) → compD b (w.map h) n = some (.ok (w.filterMap g), n)
  | [], _ => rfl
  | x :: w, k => by
    have h1 := k x List.mem_cons_self
    have h2 := comp_flt g (w := w) fun y hy => k y (List.mem_cons_of_mem _ hy)
    rw [List.map_cons, compD_cons, bind_ap, h1, bindR_ok, bind_ap, h2, bindR_ok, pure_ap]
    cases e : g x with
    | none => rw [List.filterMap_cons_none e]; rfl
    | some y => rw [List.filterMap_cons_some e]; rfl
theorem comp_of {α : Type} {h : α → D} {b : D → M (Option D)} {n : Int} {w : List α} (g : α → D) (k : ∀ x ∈ w, b (h x) n = some (.ok (some (g x)), n)) : compD b (w.map h) n = some (.ok (w.map g), n) := by
  rw [comp_flt (fun x => some (g x)) k, List.filterMap_eq_map']
/-- a comprehension that draws -/
theorem comp_drw {α : Type} {b : D → M (Option D)} (g : α → D) (P : α → Prop) : ∀ {ds : List D} {n : Int}, (∀ d ∈ ds, ∀ n, ∃ x : α, ∃ n', P x ∧ b d n = some (.ok (some (g x)), n')) → ∃ xs : List α, ∃ n', compD b ds n = some (.ok (xs.map g), n') ∧ xs.length = ds.length ∧ ∀ x ∈ xs, P x
  | [], n, _ => ⟨[], n, rfl, rfl, by simp⟩
  | d :: ds, n, h => by
    obtain ⟨x, n1, p, h1⟩ := h d List.mem_cons_self n
    obtain ⟨xs, n2, h2, h3, h4⟩ := comp_drw g P (ds := ds) (n := n1) fun y hy => h y (List.mem_cons_of_mem _ hy)
    exact ⟨x :: xs, n2, by rw [compD_cons]; simp [h1, h2], by simp [h3], fun y hy => by
      rcases List.mem_cons.mp hy with rfl | hy
      · exact p
      · exact h4 y hy⟩
theorem while_go {t : TX} {b : SX} {m : Nat} {ρ ρ1 : DL.Env} {n n1 : Int} (e1 : t ρ n = some (.ok true, n)) (e2 : b ρ n = some (.ok (.nx ρ1), n1)) : whileD t b (m + 1) ρ n = whileD t b m ρ1 n1 := by
  rw [whileD_s, bind_ap, e1, bindR_ok, selB_true, bind_ap, e2, bindR_ok, turnK_nx]
theorem while_end {t : TX} {b : SX} {m : Nat} {ρ : DL.Env} {n : Int} (e1 : t ρ n = some (.ok false, n)) : whileD t b (m + 1) ρ n = some (.ok (.nx ρ), n) := by
  rw [whileD_s, bind_ap, e1, bindR_ok, selB_false, pure_ap]
/-- a loop that folds: E s ρ says that ρ holds the state s -/
theorem for_fold {α σ : Type} {h : α → D} {g : GX} {b : SX} {n : Int} (E : σ → DL.Env → Prop) (F : σ → α → σ) : ∀ {xs : List α}, (∀ x ∈ xs, ∀ s ρ, E s ρ → ∃ ρ1 ρ2, g (h x) ρ = some ρ1 ∧ b ρ1 n = some (.ok (.nx ρ2), n) ∧ E (F s x) ρ2) → ∀ {s ρ}, E s ρ → ∃ ρ', forD g b (xs.map h) ρ n = some (.ok (.nx ρ'), n) ∧ E (xs.foldl F s) ρ'
  | [], _, s, ρ, e => ⟨ρ, rfl, e⟩
  | x :: xs, k, s, ρ, e => by
    obtain ⟨ρ1, ρ2, h1, h2, h3⟩ := k x List.mem_cons_self s ρ e
    obtain ⟨ρ', h4, h5⟩ := for_fold E F (xs := xs) (fun y hy => k y (List.mem_cons_of_mem _ hy)) h3
    exact ⟨ρ', by rw [List.map_cons, forD_cons]; simp [h1, h2, h4], h5⟩
/-- a loop with an invariant over how far it is -/
theorem for_pre {α : Type} {h : α → D} {g : GX} {b : SX} {n : Int} (I : List α → DL.Env → Prop) : ∀ {xs ys : List α}, (∀ ys x zs, ys ++ x :: zs = xs → ∀ ρ, I ys ρ → ∃ ρ1 ρ2, g (h x) ρ = some ρ1 ∧ b ρ1 n = some (.ok (.nx ρ2), n) ∧ I (ys ++ [x]) ρ2) → ∀ {zs}, ys ++ zs = xs → ∀ {ρ}, I ys ρ → ∃ ρ', forD g b (zs.map h) ρ n = some (.ok (.nx ρ'), n) ∧ I xs ρ'
  | xs, ys, k, [], e, ρ, i => ⟨ρ, rfl, by rw [List.append_nil] at e; rw [← e]; exact i⟩
  | xs, ys, k, z :: zs, e, ρ, i => by
    obtain ⟨ρ1, ρ2, h1, h2, h3⟩ := k ys z zs e ρ i
    obtain ⟨ρ', h4, h5⟩ := for_pre I k (ys := ys ++ [z]) (zs := zs) (by rw [← e]; simp) h3
    exact ⟨ρ', by rw [List.map_cons, forD_cons]; simp [h1, h2, h4], h5⟩
theorem use_for {β : Type} {g : GX} {b : SX} {ds : List D} {ρ : DL.Env} {n : Int} {K : Out → M β} {R : Option (Except Xc β × Int)} (I : DL.Env → Prop) (a : ∃ ρ', forD g b ds ρ n = some (.ok (.nx ρ'), n) ∧ I ρ') (k : ∀ ρ', I ρ' → K (.nx ρ') n = R) : bindR (forD g b ds ρ n) K = R := by
  obtain ⟨ρ', e, i⟩ := a
  rw [e, bindR_ok]
  exact k ρ' i
theorem use_while {β : Type} {t : TX} {b : SX} {f : Nat} {ρ : DL.Env} {n : Int} {K : Out → M β} {R : Option (Except Xc β × Int)} (I : DL.Env → Prop) (a : ∃ ρ', whileD t b f ρ n = some (.ok (.nx ρ'), n) ∧ I ρ') (k : ∀ ρ', I ρ' → K (.nx ρ') n = R) : bindR (whileD t b f ρ n) K = R := by
  obtain ⟨ρ', e, i⟩ := a
  rw [e, bindR_ok]
  exact k ρ' i
theorem comp_prj {α β : Type} {b : D → M (Option D)} (h : β → D) (g : α → D) (f : α → β) (P : α → Prop) : ∀ {w : List β} {n : Int}, (∀ y ∈ w, ∀ n, ∃ x : α, ∃ n', f x = y ∧ P x ∧ b (h y) n = some (.ok (some (g x)), n')) → ∃ xs : List α, ∃ n', compD b (w.map h) n = some (.ok (xs.map g), n') ∧ xs.map f = w ∧ ∀ x ∈ xs, P x
  | [], n, _ => ⟨[], n, rfl, rfl, by simp⟩
  | d :: ds, n, k => by
    obtain ⟨x, n1, e, p, h1⟩ := k d List.mem_cons_self n
    obtain ⟨xs, n2, h2, h3, h4⟩ := comp_prj h g f P (w := ds) (n := n1) fun y hy => k y (List.mem_cons_of_mem _ hy)
    exact ⟨x :: xs, n2, by rw [List.map_cons, compD_cons]; simp [h1, h2], by rw [List.map_cons, e, h3], fun y hy => by
      rcases List.mem_cons.mp hy with rfl | hy
      · exact p
      · exact h4 y hy⟩
/-- a slot that holds what nobody looks at -/
def jS (o : Option D) : Sl := match o with | some d => .val d | none => .no
theorem hide_j (o : Option D) (r : DL.Env) : hide (jS o :: r) = jS o :: hide r := by cases o <;> rfl
theorem filterMap_if {α β : Type} (p : α → Bool) (f : α → β) : ∀ w : List α, w.filterMap (fun x => if p x then some (f x) else none) = (w.filter p).map f
  | [] => rfl
  | x :: w => by
    rw [List.filterMap_cons, List.filter_cons, filterMap_if p f w]
    cases p x <;> simp
theorem kit_no {K : PySem.W.Frag} {S C : Addr} (hd : PySem.W.hasDictIn K C = true) (ht : PySem.W.typeIn K (.ref C) = some (.type "type")) (h : PySem.W.subIn K (.ref S) (.ref C) = some false) (h2 : PySem.W.subIn K (.ref C) (.ref C) = some true) : PySem.W.kitOne K (.ref S) (.ref C) = some false := by
  obtain ⟨cd, hc, _⟩ := PySem.W.any_some hd
  have e : ((PySem.W.clsIn K C).isSome && PySem.W.typeIn K (.ref C) == some (.type "type")) = true := by
    rw [hc, ht]; rfl
  unfold PySem.W.kitOne
  split
  · rename_i z
    have z : Value.ref S = Value.ref C := eq_of_beq z
    rw [z, h2] at h
    cases h
  · show (if ((PySem.W.clsIn K C).isSome && PySem.W.typeIn K (.ref C) == some (.type "type")) = true then PySem.W.subIn K (.ref S) (.ref C) else none) = some false
    rw [if_pos e]; exact h
end DL
end

section
set_option Elab.async false
set_option linter.all false
set_option autoImplicit false
set_option maxRecDepth 100000
set_option maxHeartbeats 400000
/-! printed by gen.py -/
namespace P_k57_whole_spread
open PySem PySem.Spec L2 DL
def tb_KINDS : List (Str × DL.D) := [("k", .tup [.int 1, .int 1, .str "p", .str "k"]), ("p", .tup [.int 1, .int 1, .str "k", .str "p"]), ("ktbl", .tup [.int 1, .int 1, .str "ptbl", .str "ktbl"]), ("ptbl", .tup [.int 1, .int 1, .str "ktbl", .str "ptbl"]), ("sl", .tup [.int 1, .int 1, .str "slf", .str "sl"]), ("slf", .tup [.int 1, .int 1, .str "sl", .str "slf"]), ("yo", .tup [.int 0, .int 1, .str "yo", .str "yo"]), ("co", .tup [.int 0, .int 1, .str "co", .str "co"]), ("bo", .tup [.int 1, .int 0, .str "bo", .str "bo"]), ("kfb", .tup [.int 1, .int 2, .str "pfb", .str "kfb"]), ("pfb", .tup [.int 1, .int 2, .str "kfb", .str "pfb"]), ("m1l", .tup [.int 0, .int 1, .str "m1lp", .str "m1r"]), ("m1r", .tup [.int 0, .int 1, .str "m1rp", .str "m1l"]), ("m1lp", .tup [.int 0, .int 1, .str "m1l", .str "m1rp"]), ("m1rp", .tup [.int 0, .int 1, .str "m1r", .str "m1lp"]), ("k2tog", .tup [.int 2, .int 1, .str "p2tog", .str "ssk"]), ("ssk", .tup [.int 2, .int 1, .str "ssp", .str "k2tog"]), ("p2tog", .tup [.int 2, .int 1, .str "k2tog", .str "ssp"]), ("ssp", .tup [.int 2, .int 1, .str "ssk", .str "p2tog"]), ("cdd", .tup [.int 3, .int 1, .str "cddp", .str "cdd"]), ("cddp", .tup [.int 3, .int 1, .str "cdd", .str "cddp"]), ("c2f", .tup [.int 2, .int 2, .str "c2fw", .str "c2b"]), ("c2b", .tup [.int 2, .int 2, .str "c2bw", .str "c2f"]), ("c2fw", .tup [.int 2, .int 2, .str "c2f", .str "c2bw"]), ("c2bw", .tup [.int 2, .int 2, .str "c2b", .str "c2fw"]), ("c4f", .tup [.int 4, .int 4, .str "c4fw", .str "c4b"]), ("c4b", .tup [.int 4, .int 4, .str "c4bw", .str "c4f"]), ("c4fw", .tup [.int 4, .int 4, .str "c4f", .str "c4bw"]), ("c4bw", .tup [.int 4, .int 4, .str "c4b", .str "c4fw"])]
def tr3 : Nat → Option Bool := fun i => if i = 2 then some false else if i = 3 then some true else none
def is5 : Nat → Option Bool := fun i => if i = 5 then some true else if i = 6 then some false else none
def g_Even___bool__ : SX := (sRet (eC (.bl true)))
def f_Even___bool__ : FX := runD 1 1 (g_Even___bool__)
def g_Even___init__ : SX := (sUp 0 (uFld 5 "shift") (eVar 1))
def f_Even___init__ : FX := runI 2 2 5 (g_Even___init__)
def g_is_number : SX := (sRet (eAnd (e1 (dIsi "int") (eVar 0)) (eNot (e1 (dIsi "bool") (eVar 0)))))
def f_is_number : FX := runD 1 1 (g_is_number)
def g_check_gaps : SX := (sSeq (sIf (tOrD (tNotD (tTru (e1 (dIsi "list") (eVar 0)))) (tNotD (tB (eChain dLeA dLeA (eC (.int 1)) (eB dLen (eCons (eVar 0) eNil)) (eC (.int 60)))))) (sRaise 3) sNx)
  (sIf (tNotD (tTru (eB dAll (eCons (eComp [1] (gV 1) (iOf (eVar 0)) tYesD (eAnd (eCall (f_is_number) (eCons (eVar 1) eNil)) (eChain dLeA dLeA (eC (.int 0)) (eVar 1) (eC (.int 10000))))) eNil)))) (sRaise 3) sNx))
def f_check_gaps : FX := runD 2 1 (g_check_gaps)
def g_spread_again : SX := (sSeq (sAsg (gT (gsC (gV 1) (gsC (gV 2) gsN))) (eTup (eCons (eB dSum (eCons (eVar 0) eNil)) (eCons (eB dLen (eCons (eVar 0) eNil)) eNil))))
  (sRet (eComp [3] (gV 3) (iRng1D (eCons (eVar 2) eNil)) tYesD (e2 dSub (e2 dDiv (e2 dMul (e2 dAdd (eVar 3) (eC (.int 1))) (eVar 1)) (eVar 2)) (e2 dDiv (e2 dMul (eVar 3) (eVar 1)) (eVar 2))))))
def f_spread_again : FX := runD 4 1 (g_spread_again)
def g_Even_shows : SX := (sSeq (sExp (eCall (f_check_gaps) (eCons (eVar 1) eNil)))
  (sSeq (sIf (tNotD (tTru (eCall (f_is_number) (eCons (e1 (dFld 5 "shift") (eVar 0)) eNil)))) (sRet (eC (.bl false))) sNx)
  (sSeq (sAsg (gV 2) (eCall (f_spread_again) (eCons (eVar 1) eNil)))
  (sRet (e2 dEq (eComp [3] (gV 3) (iRng1D (eCons (eB dLen (eCons (eVar 1) eNil)) eNil)) tYesD (e2 dIxA (eVar 2) (e2 dMod (e2 dAdd (e1 (dFld 5 "shift") (eVar 0)) (eVar 3)) (eB dLen (eCons (eVar 1) eNil))))) (eVar 1))))))
def f_Even_shows : FX := runD 4 2 (g_Even_shows)
def g_Uneven___bool__ : SX := (sRet (eC (.bl false)))
def f_Uneven___bool__ : FX := runD 1 1 (g_Uneven___bool__)
def g_Uneven___init__ : SX := (sSeq (sUp 0 (uFld 6 "one") (eVar 1))
  (sSeq (sUp 0 (uFld 6 "other") (eVar 2))
  (sUp 0 (uFld 6 "width") (eVar 3))))
def f_Uneven___init__ : FX := runI 4 4 6 (g_Uneven___init__)
def g_sum_from : SX := (sRet (eB dSum (eCons (eComp [3] (gV 3) (iRng1D (eCons (eVar 2) eNil)) tYesD (e2 dIxA (eVar 0) (e2 dMod (e2 dAdd (eVar 1) (eVar 3)) (eB dLen (eCons (eVar 0) eNil))))) eNil)))
def f_sum_from : FX := runD 4 3 (g_sum_from)
def g_Uneven_shows : SX := (sSeq (sExp (eCall (f_check_gaps) (eCons (eVar 1) eNil)))
  (sSeq (sIf (tNotD (tTru (eB dAll (eCons (eComp [2] (gV 2) (iOf (eTup (eCons (e1 (dFld 6 "one") (eVar 0)) (eCons (e1 (dFld 6 "other") (eVar 0)) eNil)))) tYesD (eAnd (eCall (f_is_number) (eCons (eVar 2) eNil)) (eChain dLeA dLt (eC (.int 0)) (eVar 2) (eB dLen (eCons (eVar 1) eNil))))) eNil)))) (sRet (eC (.bl false))) sNx)
  (sSeq (sIf (tOrD (tNotD (tTru (eCall (f_is_number) (eCons (e1 (dFld 6 "width") (eVar 0)) eNil)))) (tNotD (tB (eChain dLeA dLeA (eC (.int 1)) (e1 (dFld 6 "width") (eVar 0)) (eB dLen (eCons (eVar 1) eNil)))))) (sRet (eC (.bl false))) sNx)
  (sRet (e2 dGe (eCall (f_sum_from) (eCons (eVar 1) (eCons (e1 (dFld 6 "one") (eVar 0)) (eCons (e1 (dFld 6 "width") (eVar 0)) eNil)))) (e2 dAdd (eCall (f_sum_from) (eCons (eVar 1) (eCons (e1 (dFld 6 "other") (eVar 0)) (eCons (e1 (dFld 6 "width") (eVar 0)) eNil)))) (eC (.int 2))))))))
def f_Uneven_shows : FX := runD 3 2 (g_Uneven_shows)
def g__law_even : SX := (sSeq (sAsg (gV 1) (eB dLen (eCons (eVar 0) eNil)))
  (sSeq (sFor (gV 2) (iRng2D (eCons (eC (.int 1)) (eCons (eVar 1) eNil))) (sSeq (sAsg (gV 3) (eComp [4] (gV 4) (iRng1D (eCons (eVar 1) eNil)) tYesD (eB dSum (eCons (eCut (e2 dAdd (eVar 0) (eVar 0)) (oSome (eVar 4)) (oSome (e2 dAdd (eVar 4) (eVar 2)))) eNil))))
  (sIf (tB (e2 dGt (eB dMaxL (eCons (eVar 3) eNil)) (e2 dAdd (eB dMinL (eCons (eVar 3) eNil)) (eC (.int 1))))) (sRet (eC (.bl false))) sNx)))
  (sRet (eC (.bl true)))))
def f__law_even : FX := runD 5 1 (g__law_even)
def g__law_sum : SX := (sRet (eB dSum (eCons (eCut (e2 dAdd (eVar 0) (eVar 0)) (oSome (eVar 1)) (oSome (e2 dAdd (eVar 1) (eVar 2)))) eNil)))
def f__law_sum : FX := runD 3 3 (g__law_sum)
def g_judge_spread : SX := (sSeq (sExp (eCall (f_check_gaps) (eCons (eVar 0) eNil)))
  (sSeq (sFor (gV 1) (iRng2D (eCons (eC (.int 1)) (eCons (eB dLen (eCons (eVar 0) eNil)) eNil))) (sSeq (sAsg (gV 2) (eComp [5] (gV 5) (iRng1D (eCons (eB dLen (eCons (eVar 0) eNil)) eNil)) tYesD (eCall (f_sum_from) (eCons (eVar 0) (eCons (eVar 5) (eCons (eVar 1) eNil))))))
  (sIf (tB (e2 dGt (e2 dSub (eB dMaxL (eCons (eVar 2) eNil)) (eB dMinL (eCons (eVar 2) eNil))) (eC (.int 1)))) (sRet (eMake 6 (f_Uneven___init__) (eCons (eIdx (eVar 2) (eB dMaxL (eCons (eVar 2) eNil))) (eCons (eIdx (eVar 2) (eB dMinL (eCons (eVar 2) eNil))) (eCons (eVar 1) eNil))))) sNx)))
  (sSeq (sAsg (gV 3) (eCall (f_spread_again) (eCons (eVar 0) eNil)))
  (sSeq (sAsg (gV 4) (eC (.int 0)))
  (sSeq (sWhile (fun _ => 1000000) (tB (e2 dNe (e2 dAdd (eCut (eVar 3) (oSome (eVar 4)) oNone) (eCut (eVar 3) oNone (oSome (eVar 4)))) (eVar 0))) (sAug 4 (dI (fun _ _ => true) fun a b => .int (a + b)) (eC (.int 1))))
  (sRet (eMake 5 (f_Even___init__) (eCons (eVar 4) eNil))))))))
def f_judge_spread : FX := runD 6 1 (g_judge_spread)
def g_spread : SX := (sSeq (sIf (tOrD (tNotD (tTru (eCall (f_is_number) (eCons (eVar 0) eNil)))) (tOrD (tNotD (tTru (eCall (f_is_number) (eCons (eVar 1) eNil)))) (tOrD (tNotD (tB (eChain dLeA dLeA (eC (.int 0)) (eVar 0) (eC (.int 10000))))) (tNotD (tB (eChain dLeA dLeA (eC (.int 1)) (eVar 1) (eC (.int 60)))))))) (sRaise 3) sNx)
  (sRet (eComp [2] (gV 2) (iRng1D (eCons (eVar 1) eNil)) tYesD (e2 dSub (e2 dDiv (e2 dMul (e2 dAdd (eVar 2) (eC (.int 1))) (eVar 0)) (eVar 1)) (e2 dDiv (e2 dMul (eVar 2) (eVar 0)) (eVar 1))))))
def f_spread : FX := runD 3 2 (g_spread)
def g__law_judged : SX := (sSeq (sAsg (gV 1) (eCall (f_judge_spread) (eCons (eVar 0) eNil)))
  (sSeq (sIf (tOrD (tB (e2 dNe (eAlt (eBoolO (tOwn 5 (f_Even___bool__) (eVar 1))) (eBoolO (tOwn 6 (f_Uneven___bool__) (eVar 1)))) (eCall (f__law_even) (eCons (eVar 0) eNil)))) (tNotD (tTru (eAlt (eMeth 5 "shows" (f_Even_shows) (eVar 1) (eCons (eVar 0) eNil)) (eMeth 6 "shows" (f_Uneven_shows) (eVar 1) (eCons (eVar 0) eNil)))))) (sRet (eC (.bl false))) sNx)
  (sSeq (sIf (tTru (e1 (dIsO is5) (eVar 1))) (sSeq (sAsg (gV 2) (eCall (f_spread) (eCons (eB dSum (eCons (eVar 0) eNil)) (eCons (eB dLen (eCons (eVar 0) eNil)) eNil))))
  (sSeq (sIf (tB (e2 dNe (eComp [3] (gV 3) (iRng1D (eCons (eB dLen (eCons (eVar 0) eNil)) eNil)) tYesD (e2 dIxA (eVar 2) (e2 dMod (eB dIntA (eCons (e2 dAdd (e1 (dFld 5 "shift") (eVar 1)) (eVar 3)) eNil)) (eB dLen (eCons (eVar 0) eNil))))) (eVar 0))) (sRet (eC (.bl false))) sNx)
  (sRet (eAnd (eNot (eMeth 6 "shows" (f_Uneven_shows) (eMake 6 (f_Uneven___init__) (eCons (eC (.int 0)) (eCons (eIf (tB (e2 dGt (eB dLen (eCons (eVar 0) eNil)) (eC (.int 1)))) (eC (.int 1)) (eC (.int 0))) (eCons (eC (.int 1)) eNil)))) (eCons (eVar 0) eNil))) (eMeth 5 "shows" (f_Even_shows) (eMake 5 (f_Even___init__) (eCons (e2 dAdd (e1 (dFld 5 "shift") (eVar 1)) (eB dLen (eCons (eVar 0) eNil))) eNil)) (eCons (eVar 0) eNil)))))) sNx)
  (sSeq (sIf (tOrD (tB (e2 dLt (eCall (f__law_sum) (eCons (eVar 0) (eCons (e1 (dFld 6 "one") (eVar 1)) (eCons (e1 (dFld 6 "width") (eVar 1)) eNil)))) (e2 dAdd (eCall (f__law_sum) (eCons (eVar 0) (eCons (e1 (dFld 6 "other") (eVar 1)) (eCons (e1 (dFld 6 "width") (eVar 1)) eNil)))) (eC (.int 2))))) (tTru (eMeth 6 "shows" (f_Uneven_shows) (eMake 6 (f_Uneven___init__) (eCons (e1 (dFld 6 "other") (eVar 1)) (eCons (e1 (dFld 6 "one") (eVar 1)) (eCons (e1 (dFld 6 "width") (eVar 1)) eNil)))) (eCons (eVar 0) eNil)))) (sRet (eC (.bl false))) sNx)
  (sRet (eAnd (eNot (eB dAny (eCons (eComp [4] (gV 4) (iRng1D (eCons (eB dLen (eCons (eVar 0) eNil)) eNil)) tYesD (eMeth 5 "shows" (f_Even_shows) (eMake 5 (f_Even___init__) (eCons (eVar 4) eNil)) (eCons (eVar 0) eNil))) eNil))) (eNot (eMeth 6 "shows" (f_Uneven_shows) (eMake 6 (f_Uneven___init__) (eCons (e1 (dFld 6 "one") (eVar 1)) (eCons (e1 (dFld 6 "other") (eVar 1)) (eCons (eC (.int 0)) eNil)))) (eCons (eVar 0) eNil)))))))))
def f__law_judged : FX := runD 5 1 (g__law_judged)
def g__law_kinds : SX := (sSeq (sOwn 0 (.dic [] []))
  (sSeq (sAsg (gV 1) (eC (.str "k 1 1 p k, p 1 1 k p, ktbl 1 1 ptbl ktbl, ptbl 1 1 ktbl ptbl, sl 1 1 slf sl, slf 1 1 sl slf, yo 0 1 yo yo, co 0 1 co co, bo 1 0 bo bo, kfb 1 2 pfb kfb, pfb 1 2 kfb pfb, m1l 0 1 m1lp m1r, m1r 0 1 m1rp m1l, m1lp 0 1 m1l m1rp, m1rp 0 1 m1r m1lp, k2tog 2 1 p2tog ssk, ssk 2 1 ssp k2tog, p2tog 2 1 k2tog ssp, ssp 2 1 ssk p2tog, cdd 3 1 cddp cdd, cddp 3 1 cdd cddp, c2f 2 2 c2fw c2b, c2b 2 2 c2bw c2f, c2fw 2 2 c2f c2bw, c2bw 2 2 c2b c2fw, c4f 4 4 c4fw c4b, c4b 4 4 c4bw c4f, c4fw 4 4 c4f c4bw, c4bw 4 4 c4b c4fw")))
  (sSeq (sFor (gV 2) (iOf (e2 dSplit (eVar 1) (eC (.str ", ")))) (sSeq (sAsg (gV 3) (e2 dSplit (eVar 2) (eC (.str " "))))
  (sPut 0 (e2 dIx (eVar 3) (eC (.int 0))) (eTup (eCons (eB dIntA (eCons (e2 dIx (eVar 3) (eC (.int 1))) eNil)) (eCons (eB dIntA (eCons (e2 dIx (eVar 3) (eC (.int 2))) eNil)) (eCons (e2 dIx (eVar 3) (eC (.int 3))) (eCons (e2 dIx (eVar 3) (eC (.int 4))) eNil))))))))
  (sSeq (sFrz 0) (sRet (eVar 0))))))
def f__law_kinds : FX := runD 4 0 (g__law_kinds)
def g__law_all_rows : SX := (sSeq (sOwn 2 (.lst []))
  (sSeq (sFor (gV 3) (iOf (eVar 0)) (sIf (tB (e2 dEq (e2 dIx (eVar 3) (eC (.int 0))) (eC (.str "row")))) (sApp 2 (e2 dIx (eVar 3) (eC (.int 1)))) (sSeq (sAsg (gV 4) (e2 dAdd (e2 dIx (e2 dIx (eVar 3) (eC (.int 1))) (eC (.int 0))) (e2 dMul (e2 dIx (e2 dIx (eVar 3) (eC (.int 1))) (eC (.int 1))) (eVar 1))))
  (sSeq (sIf (tB (e2 dLt (eVar 4) (eC (.int 0)))) (sSeq (sFrz 2) (sRet (e2 dAdd (eVar 2) (eLst (eCons (eC .non) eNil))))) sNx)
  (sExt 2 (e2 dMulL (eB dLstA (eCons (e2 dIx (eVar 3) (eC (.int 2))) eNil)) (eVar 4)))))))
  (sSeq (sFrz 2) (sRet (eVar 2)))))
def f__law_all_rows : FX := runD 5 2 (g__law_all_rows)
def g__law_number (W : Wd) : SX := (sSeq (sIf (tB (e2 (dScrNil W) (eVar 0) (eLst eNil))) (sRet (eB dInt (eCons (e2 dMod (e2 dAdd (e2 dMul (eVar 1) (eC (.int 48271))) (eC (.int 12345))) (eC (.int 2147483647))) eNil))) sNx)
  (sSeq (sAsg (gV 2) (e2 (dIxS W) (eVar 0) (e2 dMod (eVar 1) (eB (dLenS W) (eCons (eVar 0) eNil)))))
  (sSeq (sIf (tB (e2 dGe (eB dAbs (eCons (eVar 2) eNil)) (e2 dPow (eC (.int 10)) (eC (.int 60))))) (sAsg (gV 2) (e2 dMod (eVar 2) (e2 dPow (eC (.int 10)) (eC (.int 18))))) sNx)
  (sSeq (sAsg (gV 3) (e2 dMod (e2 dAdd (e2 dMul (e2 dAdd (eVar 2) (e2 dMul (eC (.int 977)) (eVar 1))) (eC (.int 48271))) (e2 dMul (eC (.int 31)) (eB (dLenS W) (eCons (eVar 0) eNil)))) (eC (.int 2147483647))))
  (sRet (eB dInt (eCons (e2 dMod (e2 dAdd (e2 dMul (e2 dMod (e2 dMul (eVar 3) (eC (.int 69621))) (eC (.int 2147483629))) (eC (.int 16807))) (eVar 1)) (eC (.int 2147483587))) eNil)))))))
def f__law_number (W : Wd) : FX := runD 4 2 (g__law_number W)
def g__law_take (W : Wd) : SX := (sSeq (sDrw (eVar 0))
  (sRet (e2 dMod (eB dInt (eCons (eCall (f__law_number W) (eCons (eDrw0 (eVar 0)) (eCons (eB dInt (eCons (eDrw1 (eVar 0)) eNil)) eNil))) eNil)) (eVar 1))))
def f__law_take (W : Wd) : FX := runD 2 2 (g__law_take W)
def g__law_pick (W : Wd) : SX := (sRet (e2 dIxA (eVar 1) (eCall (f__law_take W) (eCons (eVar 0) (eCons (eB dLen (eCons (eVar 1) eNil)) eNil)))))
def f__law_pick (W : Wd) : FX := runD 2 2 (g__law_pick W)
def g__law_cell (W : Wd) : SX := (sSeq (sAsg (gV 2) (eLst (eCons (eC (.str "k")) (eCons (eC (.str "p")) (eCons (eC (.str "k")) (eCons (eC (.str "p")) (eCons (eC (.str "sl")) (eCons (eC (.str "yo")) (eCons (eC (.str "k2tog")) (eCons (eC (.str "ssk")) (eCons (eC (.str "kfb")) (eCons (eC (.str "m1l")) (eCons (eC (.str "c2f")) (eCons (eC (.str "ktbl")) (eCons (eC (.str "p2tog")) (eCons (eC (.str "bo")) eNil))))))))))))))))
  (sRet (eTup (eCons (eCall (f__law_pick W) (eCons (eVar 0) (eCons (eVar 2) eNil))) (eCons (eCall (f__law_pick W) (eCons (eVar 0) (eCons (eVar 1) eNil))) eNil)))))
def f__law_cell (W : Wd) : FX := runD 3 2 (g__law_cell W)
def g__law_word (W : Wd) : SX := (sRet (eB dTupOf (eCons (eComp [3] (gV 3) (iRng1D (eCons (eCall (f__law_take W) (eCons (eVar 0) (eCons (e2 dAdd (eVar 1) (eC (.int 1))) eNil))) eNil)) tYesD (eCall (f__law_cell W) (eCons (eVar 0) (eCons (eVar 2) eNil)))) eNil)))
def f__law_word (W : Wd) : FX := runD 4 3 (g__law_word W)
def g__law_easy_row (W : Wd) : SX := (sSeq (sAsg (gV 2) (eLst (eCons (eTup (eCons (eC (.str "k")) eNil)) (eCons (eTup (eCons (eC (.str "p")) eNil)) (eCons (eTup (eCons (eC (.str "sl")) eNil)) (eCons (eTup (eCons (eC (.str "k")) eNil)) (eCons (eTup (eCons (eC (.str "k")) eNil)) (eCons (eTup (eCons (eC (.str "k")) (eCons (eC (.str "p")) eNil))) (eCons (eTup (eCons (eC (.str "yo")) (eCons (eC (.str "k2tog")) eNil))) eNil)))))))))
  (sSeq (sAsg (gV 3) (eB dTupOf (eCons (eComp [4] (gV 4) (iOf (eCall (f__law_pick W) (eCons (eVar 0) (eCons (eVar 2) eNil)))) tYesD (eTup (eCons (eVar 4) (eCons (eCall (f__law_pick W) (eCons (eVar 0) (eCons (eVar 1) eNil))) eNil)))) eNil)))
  (sRet (eTup (eCons (eCall (f__law_word W) (eCons (eVar 0) (eCons (eC (.int 2)) (eCons (eVar 1) eNil)))) (eCons (eVar 3) (eCons (eCall (f__law_word W) (eCons (eVar 0) (eCons (eC (.int 2)) (eCons (eVar 1) eNil)))) eNil)))))))
def f__law_easy_row (W : Wd) : FX := runD 5 2 (g__law_easy_row W)
def g__law_makes : SX := (sRet (eB dSum (eCons (eComp [2, 3] (gT (gsC (gV 2) (gsC (gV 3) gsN))) (iOf (eVar 0)) tYesD (e2 dIx (e2 dIxA (eVar 1) (eVar 2)) (eC (.int 1)))) eNil)))
def f__law_makes : FX := runD 4 2 (g__law_makes)
def g__law_takes : SX := (sRet (eB dSum (eCons (eComp [2, 3] (gT (gsC (gV 2) (gsC (gV 3) gsN))) (iOf (eVar 0)) tYesD (e2 dIx (e2 dIxA (eVar 1) (eVar 2)) (eC (.int 0)))) eNil)))
def f__law_takes : FX := runD 4 2 (g__law_takes)
def g_makes : SX := (sRet (eB dSum (eCons (eComp [1, 2] (gT (gsC (gV 1) (gsC (gV 2) gsN))) (iOf (eVar 0)) tYesD (e2 dIx (e1 (dIxK tb_KINDS) (eVar 1)) (eC (.int 1)))) eNil)))
def f_makes : FX := runD 3 1 (g_makes)
def g_rows_of : SX := (sRet (eIf (tB (e2 dEq (e2 dIx (eVar 0) (eC (.int 0))) (eC (.str "row")))) (eCut (eVar 0) (oSome (eC (.int 1))) oNone) (e2 dIx (eVar 0) (eC (.int 2)))))
def f_rows_of : FX := runD 1 1 (g_rows_of)
def g_takes : SX := (sRet (eB dSum (eCons (eComp [1, 2] (gT (gsC (gV 1) (gsC (gV 2) gsN))) (iOf (eVar 0)) tYesD (e2 dIx (e1 (dIxK tb_KINDS) (eVar 1)) (eC (.int 0)))) eNil)))
def f_takes : FX := runD 3 1 (g_takes)
def g_growth_of : SX := (sSeq (sAsg (gV 1) (eC (.int 1)))
  (sSeq (sFor (gV 2) (iOf (eVar 0)) (sFor (gV 3) (iOf (eCall (f_rows_of) (eCons (eVar 2) eNil))) (sAug 1 dMulN (eIf (tB (e2 dGt (eCall (f_makes) (eCons (e2 dIx (eVar 3) (eC (.int 1))) eNil)) (eCall (f_takes) (eCons (e2 dIx (eVar 3) (eC (.int 1))) eNil)))) (eCall (f_makes) (eCons (e2 dIx (eVar 3) (eC (.int 1))) eNil)) (eC (.int 1))))))
  (sRet (eVar 1))))
def f_growth_of : FX := runD 4 1 (g_growth_of)
def g_is_line : SX := (sSeq (sIf (tOrD (tNotD (tTru (e1 (dIsi "tuple") (eVar 0)))) (tB (e2 dNe (eB dLen (eCons (eVar 0) eNil)) (eC (.int 2))))) (sRet (eC (.bl false))) sNx)
  (sSeq (sIf (tOrD (tNotD (tTru (eCall (f_is_number) (eCons (e2 dIx (eVar 0) (eC (.int 0))) eNil)))) (tNotD (tTru (eCall (f_is_number) (eCons (e2 dIx (eVar 0) (eC (.int 1))) eNil))))) (sRet (eC (.bl false))) sNx)
  (sRet (eAnd (e2 dLeA (eB dAbs (eCons (e2 dIx (eVar 0) (eC (.int 0))) eNil)) (eC (.int 99))) (e2 dLeA (eB dAbs (eCons (e2 dIx (eVar 0) (eC (.int 1))) eNil)) (eC (.int 9)))))))
def f_is_line : FX := runD 1 1 (g_is_line)
def g_is_even : SX := (sRet (e2 dEq (eCall (f_takes) (eCons (e2 dIx (eVar 0) (eC (.int 1))) eNil)) (eCall (f_makes) (eCons (e2 dIx (eVar 0) (eC (.int 1))) eNil))))
def f_is_even : FX := runD 1 1 (g_is_even)
def g_is_kind : SX := (sRet (eAnd (e1 (dIsi "str") (eVar 0)) (e1 (dInK tb_KINDS) (eVar 0))))
def f_is_kind : FX := runD 1 1 (g_is_kind)
def g_is_yarn : SX := (sRet (eAnd (e1 (dIsi "str") (eVar 0)) (eAnd (e2 dEq (eB dLen (eCons (eVar 0) eNil)) (eC (.int 1))) (eChain dLeA dLeA (eC (.str "a")) (eVar 0) (eC (.str "z"))))))
def f_is_yarn : FX := runD 1 1 (g_is_yarn)
def g_is_cell : SX := (sRet (eAnd (e1 (dIsi "tuple") (eVar 0)) (eAnd (e2 dEq (eB dLen (eCons (eVar 0) eNil)) (eC (.int 2))) (eAnd (eCall (f_is_kind) (eCons (e2 dIx (eVar 0) (eC (.int 0))) eNil)) (eCall (f_is_yarn) (eCons (e2 dIx (eVar 0) (eC (.int 1))) eNil))))))
def f_is_cell : FX := runD 1 1 (g_is_cell)
def g_is_word : SX := (sRet (eAnd (e1 (dIsi "tuple") (eVar 0)) (eB dAll (eCons (eComp [1] (gV 1) (iOf (eVar 0)) tYesD (eCall (f_is_cell) (eCons (eVar 1) eNil))) eNil))))
def f_is_word : FX := runD 2 1 (g_is_word)
def g_is_row : SX := (sSeq (sIf (tOrD (tNotD (tTru (e1 (dIsi "tuple") (eVar 0)))) (tOrD (tB (e2 dNe (eB dLen (eCons (eVar 0) eNil)) (eC (.int 3)))) (tNotD (tTru (eB dAll (eCons (eComp [4] (gV 4) (iOf (eVar 0)) tYesD (eCall (f_is_word) (eCons (eVar 4) eNil))) eNil)))))) (sRet (eC (.bl false))) sNx)
  (sSeq (sAsg (gT (gsC (gV 1) (gsC (gV 2) (gsC (gV 3) gsN)))) (eVar 0))
  (sSeq (sIf (tOrD (tB (e2 dGt (eB dLen (eCons (eVar 1) eNil)) (eC (.int 60)))) (tOrD (tB (e2 dGt (eB dLen (eCons (eVar 2) eNil)) (eC (.int 30)))) (tB (e2 dGt (eB dLen (eCons (eVar 3) eNil)) (eC (.int 60)))))) (sRet (eC (.bl false))) sNx)
  (sRet (eIf (tB (e2 dNe (eVar 2) (eTup eNil))) (e2 dGt (eCall (f_takes) (eCons (eVar 2) eNil)) (eC (.int 0))) (e2 dEq (eVar 3) (eTup eNil)))))))
def f_is_row : FX := runD 5 1 (g_is_row)
def g_change_of : SX := (sRet (e2 dSub (e2 dSub (e2 dAdd (eCall (f_makes) (eCons (e2 dIx (eVar 0) (eC (.int 0))) eNil)) (eCall (f_makes) (eCons (e2 dIx (eVar 0) (eC (.int 2))) eNil))) (eCall (f_takes) (eCons (e2 dIx (eVar 0) (eC (.int 0))) eNil))) (eCall (f_takes) (eCons (e2 dIx (eVar 0) (eC (.int 2))) eNil))))
def f_change_of : FX := runD 1 1 (g_change_of)
def g_round_change : SX := (sRet (eB dSum (eCons (eComp [1] (gV 1) (iOf (e2 dIx (eVar 0) (eC (.int 2)))) tYesD (eCall (f_change_of) (eCons (eVar 1) eNil))) eNil)))
def f_round_change : FX := runD 2 1 (g_round_change)
def g_is_part : SX := (sSeq (sIf (tOrD (tNotD (tTru (e1 (dIsi "tuple") (eVar 0)))) (tB (e2 dEq (eB dLen (eCons (eVar 0) eNil)) (eC (.int 0))))) (sRet (eC (.bl false))) sNx)
  (sSeq (sIf (tB (e2 dEq (e2 dIx (eVar 0) (eC (.int 0))) (eC (.str "row")))) (sRet (eAnd (e2 dEq (eB dLen (eCons (eVar 0) eNil)) (eC (.int 2))) (eCall (f_is_row) (eCons (e2 dIx (eVar 0) (eC (.int 1))) eNil)))) sNx)
  (sSeq (sIf (tOrD (tB (e2 dNe (e2 dIx (eVar 0) (eC (.int 0))) (eC (.str "block")))) (tOrD (tB (e2 dNe (eB dLen (eCons (eVar 0) eNil)) (eC (.int 3)))) (tOrD (tNotD (tTru (eCall (f_is_line) (eCons (e2 dIx (eVar 0) (eC (.int 1))) eNil)))) (tNotD (tTru (e1 (dIsi "tuple") (e2 dIx (eVar 0) (eC (.int 2))))))))) (sRet (eC (.bl false))) sNx)
  (sSeq (sIf (tOrD (tNotD (tB (eChain dLeA dLeA (eC (.int 1)) (eB dLen (eCons (e2 dIx (eVar 0) (eC (.int 2))) eNil)) (eC (.int 20))))) (tNotD (tTru (eB dAll (eCons (eComp [1] (gV 1) (iOf (e2 dIx (eVar 0) (eC (.int 2)))) tYesD (eAnd (eCall (f_is_row) (eCons (eVar 1) eNil)) (eCall (f_is_even) (eCons (eVar 1) eNil)))) eNil))))) (sRet (eC (.bl false))) sNx)
  (sRet (e2 dLeA (eB dAbs (eCons (eCall (f_round_change) (eCons (eVar 0) eNil)) eNil)) (eC (.int 12))))))))
def f_is_part : FX := runD 2 1 (g_is_part)
def g_common : SX := (sSeq (sPar [2, 3] (eCons (eVar 0) (eCons (eVar 1) eNil)))
  (sSeq (sWhile (fun _ => 1000000) (tB (e2 dNe (eVar 3) (eC (.int 0)))) (sPar [2, 3] (eCons (eVar 3) (eCons (e2 dMod (eVar 2) (eVar 3)) eNil))))
  (sRet (e2 dMul (e2 dDiv (eVar 0) (eVar 2)) (eVar 1)))))
def f_common : FX := runD 4 2 (g_common)
def g_measure_of : SX := (sSeq (sAsg (gT (gsC (gV 1) (gsC (gV 2) (gsC (gV 3) gsN)))) (eTup (eCons (eC (.int 2)) (eCons (eC (.int 1)) (eCons (eC (.int 1)) eNil)))))
  (sSeq (sFor (gV 4) (iOf (eVar 0)) (sSeq (sIf (tB (e2 dEq (e2 dIx (eVar 4) (eC (.int 0))) (eC (.str "block")))) (sAsg (gV 1) (eCall (f_common) (eCons (eVar 1) (eCons (e2 dMul (e2 dAdd (eC (.int 2)) (e2 dMul (eC (.int 2)) (e2 dMod (eB dLen (eCons (e2 dIx (eVar 4) (eC (.int 2))) eNil)) (eC (.int 2))))) (eB dLen (eCons (e2 dIx (eVar 4) (eC (.int 2))) eNil))) eNil)))) sNx)
  (sFor (gV 5) (iOf (eCall (f_rows_of) (eCons (eVar 4) eNil))) (sIf (tB (e2 dNe (e2 dIx (eVar 5) (eC (.int 1))) (eTup eNil))) (sSeq (sAsg (gV 3) (eCall (f_common) (eCons (eVar 3) (eCons (eCall (f_takes) (eCons (e2 dIx (eVar 5) (eC (.int 1))) eNil)) eNil))))
  (sAug 2 dMulN (eIf (tTru (eCall (f_is_even) (eCons (eVar 5) eNil))) (eC (.int 1)) (eCall (f_takes) (eCons (e2 dIx (eVar 5) (eC (.int 1))) eNil))))) sNx))))
  (sRet (eCall (f_common) (eCons (eVar 1) (eCons (e2 dMul (eVar 2) (eVar 3)) eNil))))))
def f_measure_of : FX := runD 6 1 (g_measure_of)
def g_Piece___init__ : SX := (sSeq (sIf (tOrD (tB (e2 dNi (eVar 1) (eTup (eCons (eC (.str "flat")) (eCons (eC (.str "round")) eNil))))) (tOrD (tNotD (tTru (eCall (f_is_line) (eCons (eVar 2) eNil)))) (tOrD (tNotD (tTru (e1 (dIsi "tuple") (eVar 3)))) (tB (e2 dGt (eB dLen (eCons (eVar 3) eNil)) (eC (.int 40))))))) sNone sNx)
  (sSeq (sFor (gT (gsC (gV 4) (gsC (gV 5) gsN))) (iEnumD (eCons (eVar 3) eNil)) (sIf (tNotD (tTru (eCall (f_is_part) (eCons (eVar 5) eNil)))) sNone sNx))
  (sSeq (sIf (tOrD (tB (e2 dGt (eCall (f_measure_of) (eCons (eVar 3) eNil)) (eC (.int 120)))) (tB (e2 dGt (eCall (f_growth_of) (eCons (eVar 3) eNil)) (eC (.int 12))))) sNone sNx)
  (sSeq (sUp 0 (uFld 4 "way") (eVar 1))
  (sSeq (sUp 0 (uFld 4 "cast") (eVar 2))
  (sUp 0 (uFld 4 "parts") (eVar 3)))))))
def f_Piece___init__ : FX := runI 6 4 4 (g_Piece___init__)
def g_plain_parts : SX := (sSeq (sIf (tAndD (tB (e2 dGe (eVar 1) (eC (.int 2)))) (tTru (eCall (f_is_even) (eCons (eVar 0) eNil)))) (sRet (eLst (eCons (eTup (eCons (eC (.str "block")) (eCons (eTup (eCons (eVar 1) (eCons (eC (.int 0)) eNil))) (eCons (eTup (eCons (eVar 0) eNil)) eNil)))) eNil))) sNx)
  (sRet (e2 dMulL (eLst (eCons (eTup (eCons (eC (.str "row")) (eCons (eVar 0) eNil))) eNil)) (eVar 1))))
def f_plain_parts : FX := runD 2 2 (g_plain_parts)
def g_shaped : SX := (sSeq (sExp (eCall (f_check_gaps) (eCons (eVar 4) eNil)))
  (sSeq (sFor (gV 5) (iOf (eTup (eCons (eVar 2) (eCons (eVar 3) eNil)))) (sIf (tNotD (tTru (eCall (f_is_row) (eCons (eVar 5) eNil)))) (sRaise 2) sNx))
  (sSeq (sOwn 6 (.lst []))
  (sSeq (sFor (gV 7) (iOf (eVar 4)) (sIf (tB (e2 dGt (eVar 7) (eC (.int 0)))) (sExtM 6 (e2 dAdd (eCall (f_plain_parts) (eCons (eVar 2) (eCons (e2 dSub (eVar 7) (eC (.int 1))) eNil))) (eLst (eCons (eTup (eCons (eC (.str "row")) (eCons (eVar 3) eNil))) eNil)))) sNx))
  (sSeq (sFrz 6) (sRet (eMake 4 (f_Piece___init__) (eCons (eVar 0) (eCons (eVar 1) (eCons (eB dTupOf (eCons (eVar 6) eNil)) eNil))))))))))
def f_shaped : FX := runD 8 5 (g_shaped)
def g__law_shaped (W : Wd) : SX := (sSeq (sAsg (gT (gsC (gV 2) (gsC (gV 3) gsN))) (eTup (eCons (eCall (f__law_easy_row W) (eCons (eVar 0) (eCons (eLst (eCons (eC (.str "a")) eNil)) eNil))) (eCons (eCall (f__law_easy_row W) (eCons (eVar 0) (eCons (eLst (eCons (eC (.str "b")) eNil)) eNil))) eNil))))
  (sSeq (sIf (tB (e2 dEq (eCall (f__law_take W) (eCons (eVar 0) (eCons (eC (.int 4)) eNil))) (eC (.int 0)))) (sAsg (gV 2) (eTup (eCons (e2 dIx (eVar 2) (eC (.int 0))) (eCons (eTup (eCons (eTup (eCons (eC (.str "k2tog")) (eCons (eC (.str "a")) eNil))) eNil)) (eCons (e2 dIx (eVar 2) (eC (.int 2))) eNil))))) sNx)
  (sSeq (sAsg (gV 4) (eIf (tB (e2 dNe (e2 dIx (eVar 2) (eC (.int 1))) (eTup (eCons (eTup (eCons (eC (.str "k2tog")) (eCons (eC (.str "a")) eNil))) eNil)))) (eComp [10] (gV 10) (iRng1D (eCons (e2 dAdd (eC (.int 1)) (eCall (f__law_take W) (eCons (eVar 0) (eCons (eC (.int 4)) eNil)))) eNil)) tYesD (eCall (f__law_take W) (eCons (eVar 0) (eCons (eC (.int 5)) eNil)))) (eLst (eCons (eCall (f__law_take W) (eCons (eVar 0) (eCons (eC (.int 4)) eNil))) eNil))))
  (sSeq (sAsg (gV 5) (eCall (f_shaped) (eCons (eC (.str "flat")) (eCons (eTup (eCons (eC (.int 9)) (eCons (eC (.int 2)) eNil))) (eCons (eVar 2) (eCons (eVar 3) (eCons (eVar 4) eNil)))))))
  (sSeq (sAsg (gV 6) (eLst eNil))
  (sSeq (sFor (gV 7) (iOf (eVar 4)) (sAsg (gV 6) (e2 dAdd (eVar 6) (eIf (tB (e2 dGt (eVar 7) (eC (.int 0)))) (e2 dAdd (e2 dMulL (eLst (eCons (eVar 2) eNil)) (e2 dSub (eVar 7) (eC (.int 1)))) (eLst (eCons (eVar 3) eNil))) (eLst eNil)))))
  (sSeq (sAsg (gV 8) (e2 dEq (eCall (f__law_takes) (eCons (e2 dIx (eVar 2) (eC (.int 1))) (eCons (eVar 1) eNil))) (eCall (f__law_makes) (eCons (e2 dIx (eVar 2) (eC (.int 1))) (eCons (eVar 1) eNil)))))
  (sSeq (sAsg (gV 9) (eComp [11] (gV 11) (iOf (e1 (dFld 4 "parts") (eVar 5))) (tB (e2 dEq (e2 dIx (eVar 11) (eC (.int 0))) (eC (.str "block")))) (eVar 11)))
  (sSeq (sIf (tOrD (tB (e2 dNe (eB dLen (eCons (eVar 9) eNil)) (eB dLen (eCons (eComp [7] (gV 7) (iOf (eVar 4)) (tAndD (tB (e2 dGe (eVar 7) (eC (.int 3)))) (tTru (eVar 8))) (eVar 7)) eNil)))) (tB (e2 dNe (eTup (eCons (e1 (dFld 4 "way") (eVar 5)) (eCons (e1 (dFld 4 "cast") (eVar 5)) eNil))) (eTup (eCons (eC (.str "flat")) (eCons (eTup (eCons (eC (.int 9)) (eCons (eC (.int 2)) eNil))) eNil)))))) (sRet (eC (.bl false))) sNx)
  (sRet (eAnd (e2 dEq (eCall (f__law_all_rows) (eCons (e1 (dFld 4 "parts") (eVar 5)) (eCons (eC (.int 5)) eNil))) (eVar 6)) (eB dAll (eCons (eComp [11] (gV 11) (iOf (eVar 9)) tYesD (eAnd (e2 dEq (e2 dIx (eVar 11) (eC (.int 2))) (eTup (eCons (eVar 2) eNil))) (e2 dGe (e2 dIx (e2 dIx (eVar 11) (eC (.int 1))) (eC (.int 0))) (eC (.int 2))))) eNil)))))))))))))
def f__law_shaped (W : Wd) : FX := runD 12 2 (g__law_shaped W)
def g_schedule : SX := (sSeq (sIf (tOrD (tNotD (tTru (eCall (f_is_number) (eCons (eVar 0) eNil)))) (tOrD (tNotD (tTru (eCall (f_is_number) (eCons (eVar 1) eNil)))) (tNotD (tB (eChain3 dLeA dLeA dLeA (eC (.int 1)) (eVar 1) (eVar 0) (eC (.int 10000))))))) (sRaise 3) sNx)
  (sSeq (sPar [2, 3] (eCons (e2 dDiv (eVar 0) (eVar 1)) (eCons (e2 dMod (eVar 0) (eVar 1)) eNil)))
  (sRet (eComp [4, 5] (gT (gsC (gV 4) (gsC (gV 5) gsN))) (iOf (eTup (eCons (eTup (eCons (eVar 2) (eCons (e2 dSub (eVar 1) (eVar 3)) eNil))) (eCons (eTup (eCons (e2 dAdd (eVar 2) (eC (.int 1))) (eCons (eVar 3) eNil))) eNil)))) (tB (e2 dGt (eVar 5) (eC (.int 0)))) (eTup (eCons (eVar 4) (eCons (eVar 5) eNil)))))))
def f_schedule : FX := runD 6 2 (g_schedule)
def g_law (W : Wd) : SX := (sSeq (sAsg (gV 2) (eCall (f__law_kinds) eNil))
  (sSeq (sFor (gV 3) (iRng1D (eCons (eC (.int 2)) eNil)) (sSeq (sAsg (gV 4) (e2 dAdd (eC (.int 1)) (eCall (f__law_take W) (eCons (eVar 1) (eCons (eC (.int 9)) eNil)))))
  (sSeq (sAsg (gV 5) (eIf (tB (e2 dGt (eCall (f__law_take W) (eCons (eVar 1) (eCons (eC (.int 4)) eNil))) (eC (.int 0)))) (eCall (f__law_take W) (eCons (eVar 1) (eCons (e2 dAdd (e2 dMul (eVar 4) (e2 dAdd (eC (.int 2)) (eCall (f__law_take W) (eCons (eVar 1) (eCons (eC (.int 5)) eNil))))) (eC (.int 1))) eNil))) (e2 dSub (eC (.int 10000)) (eCall (f__law_take W) (eCons (eVar 1) (eCons (eC (.int 500)) eNil))))))
  (sSeq (sAsg (gT (gsC (gV 6) (gsC (gV 7) gsN))) (eTup (eCons (eCall (f_spread) (eCons (eVar 5) (eCons (eVar 4) eNil))) (eCons (eCall (f__law_take W) (eCons (eVar 1) (eCons (eVar 4) eNil))) eNil))))
  (sSeq (sIf (tOrD (tB (e2 dNe (eB dLen (eCons (eVar 6) eNil)) (eVar 4))) (tOrD (tB (e2 dNe (eB dSum (eCons (eVar 6) eNil)) (eVar 5))) (tB (e2 dNe (eComp [9] (gV 9) (iRng1D (eCons (eVar 4) eNil)) tYesD (eB dSum (eCons (eCut (eVar 6) oNone (oSome (e2 dAdd (eVar 9) (eC (.int 1))))) eNil))) (eComp [9] (gV 9) (iRng1D (eCons (eVar 4) eNil)) tYesD (e2 dDiv (e2 dMul (e2 dAdd (eVar 9) (eC (.int 1))) (eVar 5)) (eVar 4))))))) (sRet (eC (.bl false))) sNx)
  (sSeq (sAsg (gV 8) (e2 dAdd (eCut (eVar 6) (oSome (eVar 7)) oNone) (eCut (eVar 6) oNone (oSome (eVar 7)))))
  (sSeq (sIf (tOrD (tNotD (tTru (eCall (f__law_judged) (eCons (eVar 6) eNil)))) (tNotD (tTru (eCall (f__law_judged) (eCons (eVar 8) eNil))))) (sRet (eC (.bl false))) sNx)
  (sSeq (sPar [9, 10] (eCons (eCall (f__law_take W) (eCons (eVar 1) (eCons (eVar 4) eNil))) (eCons (eCall (f__law_take W) (eCons (eVar 1) (eCons (eVar 4) eNil))) eNil)))
  (sSeq (sOwnN 11 (nLstOf (eVar 8)))
  (sSeq (sIf (tB (e2 dGt (eOwnIx 11 (eVar 9)) (eC (.int 0)))) (sPutL2 11 (eTup (eCons (e2 dSub (eOwnIx 11 (eVar 9)) (eC (.int 1))) (eCons (e2 dAdd (eOwnIx 11 (eVar 10)) (eIf (tB (e2 dNe (eVar 9) (eVar 10))) (eC (.int 1)) (eC (.int 0)))) eNil))) (eVar 9) (eVar 10)) sNx)
  (sSeq (sFrz 11) (sSeq (sIf (tOrD (tNotD (tTru (eCall (f__law_judged) (eCons (eVar 11) eNil)))) (tNotD (tTru (eCall (f__law_judged) (eCons (eComp [16] (gV 16) (iRng1D (eCons (eVar 4) eNil)) tYesD (eCall (f__law_take W) (eCons (eVar 1) (eCons (eC (.int 4)) eNil)))) eNil))))) (sRet (eC (.bl false))) sNx)
  (sSeq (sAsg (gV 12) (e2 dAdd (eC (.int 1)) (eCall (f__law_take W) (eCons (eVar 1) (eCons (eC (.int 8)) eNil)))))
  (sSeq (sAsg (gV 13) (e2 dAdd (eVar 12) (eCall (f__law_take W) (eCons (eVar 1) (eCons (eC (.int 30)) eNil)))))
  (sSeq (sAsg (gV 14) (eCall (f_schedule) (eCons (eVar 13) (eCons (eVar 12) eNil))))
  (sSeq (sIf (tOrD (tB (e2 dNe (eB dSum (eCons (eComp [17, 18] (gT (gsC (gV 17) (gsC (gV 18) gsN))) (iOf (eVar 14)) tYesD (e2 dMul (eVar 17) (eVar 18))) eNil)) (eVar 13))) (tB (e2 dNe (eB dSum (eCons (eComp [17, 18] (gT (gsC (gV 17) (gsC (gV 18) gsN))) (iOf (eVar 14)) tYesD (eVar 18)) eNil)) (eVar 12)))) (sRet (eC (.bl false))) sNx)
  (sSeq (sIf (tB (e2 dNe (eComp [17, 18] (gT (gsC (gV 17) (gsC (gV 18) gsN))) (iOf (eVar 14)) tYesD (eVar 17)) (e1 dSortSet (eComp [17, 18] (gT (gsC (gV 17) (gsC (gV 18) gsN))) (iOf (eVar 14)) tYesD (eVar 17))))) (sRet (eC (.bl false))) sNx)
  (sIf (tOrD (tB (e2 dGt (e2 dIx (e2 dIx (eVar 14) (e1 dNeg (eC (.int 1)))) (eC (.int 0))) (e2 dAdd (e2 dIx (e2 dIx (eVar 14) (eC (.int 0))) (eC (.int 0))) (eC (.int 1))))) (tB (e2 dLt (eB dMinL (eCons (eComp [17, 18] (gT (gsC (gV 17) (gsC (gV 18) gsN))) (iOf (eVar 14)) tYesD (eVar 18)) eNil)) (eC (.int 1))))) (sRet (eC (.bl false))) sNx))))))))))))))))))
  (sSeq (sFor (gV 15) (iOf (eTup (eCons (eTup (eCons (e1 dNeg (eC (.int 1))) (eCons (eC (.int 3)) eNil))) (eCons (eTup (eCons (eC (.int 5)) (eCons (eC (.int 0)) eNil))) (eCons (eTup (eCons (eC (.int 10001)) (eCons (eC (.int 2)) eNil))) (eCons (eTup (eCons (eC (.int 5)) (eCons (eC (.int 61)) eNil))) (eCons (eTup (eCons (eC (.bl true)) (eCons (eC (.int 2)) eNil))) (eCons (eTup (eCons (eC (.int 5)) (eCons (eC .non) eNil))) eNil)))))))) (sTry tr3 (sSeqX (sExp (eCall (f_spread) (eCons (e2 dIx (eVar 15) (eC (.int 0))) (eCons (e2 dIx (eVar 15) (eC (.int 1))) eNil)))) (sRet (eC (.bl false)))) sNx))
  (sSeq (sFor (gV 15) (iOf (eTup (eCons (eLst eNil) (eCons (e2 dMulL (eLst (eCons (eC (.int 1)) eNil)) (eC (.int 61))) (eCons (eLst (eCons (eC (.int 1)) (eCons (e1 dNeg (eC (.int 1))) eNil))) (eCons (eLst (eCons (eC (.bl true)) eNil)) (eCons (eTup (eCons (eC (.int 1)) (eCons (eC (.int 2)) eNil))) (eCons (eC .non) (eCons (eLst (eCons (eC (.int 10001)) eNil)) eNil))))))))) (sTry tr3 (sSeqX (sExp (eCall (f_judge_spread) (eCons (eVar 15) eNil))) (sRet (eC (.bl false)))) sNx))
  (sRet (eCall (f__law_shaped W) (eCons (eVar 1) (eCons (eVar 2) eNil))))))))
end P_k57_whole_spread
namespace P_k57_whole_spread
open PySem PySem.Spec L2 DL
open PyProof.Rows (envOfC)
def top (i : Nat) : Stmt := PySem.Challenge.pw_allstitches_k57_whole_spread.main.body.getD i (.Pass ⟨0, 0, 0, 0⟩)
abbrev s_Even___bool__ : Stmt := inClass (top 45) 1
abbrev N_Even___bool__ : List Str := ["self"]
theorem sc_Even___bool__ : FnScope N_Even___bool__ ["self"] (defScope s_Even___bool__) := ⟨rfl, rfl, rfl, by decide +kernel, rfl, by decide +kernel, by decide +kernel⟩
abbrev s_Even___init__ : Stmt := inClass (top 45) 0
abbrev N_Even___init__ : List Str := ["self", "shift"]
theorem sc_Even___init__ : FnScope N_Even___init__ ["self", "shift"] (defScope s_Even___init__) := ⟨rfl, rfl, rfl, by decide +kernel, rfl, by decide +kernel, by decide +kernel⟩
abbrev s_is_number : Stmt := top 16
abbrev N_is_number : List Str := ["thing"]
theorem sc_is_number : FnScope N_is_number ["thing"] (defScope s_is_number) := ⟨rfl, rfl, rfl, by decide +kernel, rfl, by decide +kernel, by decide +kernel⟩
abbrev s_check_gaps : Stmt := top 43
abbrev N_check_gaps : List Str := ["gaps", "gap"]
theorem sc_check_gaps : FnScope N_check_gaps ["gaps"] (defScope s_check_gaps) := ⟨rfl, rfl, rfl, by decide +kernel, rfl, by decide +kernel, by decide +kernel⟩
abbrev s_spread_again : Stmt := top 47
abbrev N_spread_again : List Str := ["gaps", "total", "parts", "at"]
theorem sc_spread_again : FnScope N_spread_again ["gaps"] (defScope s_spread_again) := ⟨rfl, rfl, rfl, by decide +kernel, rfl, by decide +kernel, by decide +kernel⟩
abbrev s_Even_shows : Stmt := inClass (top 45) 2
abbrev N_Even_shows : List Str := ["self", "gaps", "told", "at"]
theorem sc_Even_shows : FnScope N_Even_shows ["self", "gaps"] (defScope s_Even_shows) := ⟨rfl, rfl, rfl, by decide +kernel, rfl, by decide +kernel, by decide +kernel⟩
abbrev s_Uneven___bool__ : Stmt := inClass (top 46) 1
abbrev N_Uneven___bool__ : List Str := ["self"]
theorem sc_Uneven___bool__ : FnScope N_Uneven___bool__ ["self"] (defScope s_Uneven___bool__) := ⟨rfl, rfl, rfl, by decide +kernel, rfl, by decide +kernel, by decide +kernel⟩
abbrev s_Uneven___init__ : Stmt := inClass (top 46) 0
abbrev N_Uneven___init__ : List Str := ["self", "one", "other", "width"]
theorem sc_Uneven___init__ : FnScope N_Uneven___init__ ["self", "one", "other", "width"] (defScope s_Uneven___init__) := ⟨rfl, rfl, rfl, by decide +kernel, rfl, by decide +kernel, by decide +kernel⟩
abbrev s_sum_from : Stmt := top 44
abbrev N_sum_from : List Str := ["gaps", "start", "many", "at"]
theorem sc_sum_from : FnScope N_sum_from ["gaps", "start", "many"] (defScope s_sum_from) := ⟨rfl, rfl, rfl, by decide +kernel, rfl, by decide +kernel, by decide +kernel⟩
abbrev s_Uneven_shows : Stmt := inClass (top 46) 2
abbrev N_Uneven_shows : List Str := ["self", "gaps", "start"]
theorem sc_Uneven_shows : FnScope N_Uneven_shows ["self", "gaps"] (defScope s_Uneven_shows) := ⟨rfl, rfl, rfl, by decide +kernel, rfl, by decide +kernel, by decide +kernel⟩
abbrev s__law_even : Stmt := top 68
abbrev N__law_even : List Str := ["_law_gaps", "_law_many", "_law_width", "_law_sums", "_law_start"]
theorem sc__law_even : FnScope N__law_even ["_law_gaps"] (defScope s__law_even) := ⟨rfl, rfl, rfl, by decide +kernel, rfl, by decide +kernel, by decide +kernel⟩
abbrev s__law_sum : Stmt := top 69
abbrev N__law_sum : List Str := ["_law_gaps", "_law_start", "_law_width"]
theorem sc__law_sum : FnScope N__law_sum ["_law_gaps", "_law_start", "_law_width"] (defScope s__law_sum) := ⟨rfl, rfl, rfl, by decide +kernel, rfl, by decide +kernel, by decide +kernel⟩
abbrev s_judge_spread : Stmt := top 48
abbrev N_judge_spread : List Str := ["gaps", "many", "sums", "told", "shift", "start"]
theorem sc_judge_spread : FnScope N_judge_spread ["gaps"] (defScope s_judge_spread) := ⟨rfl, rfl, rfl, by decide +kernel, rfl, by decide +kernel, by decide +kernel⟩
abbrev s_spread : Stmt := top 42
abbrev N_spread : List Str := ["total", "parts", "at"]
theorem sc_spread : FnScope N_spread ["total", "parts"] (defScope s_spread) := ⟨rfl, rfl, rfl, by decide +kernel, rfl, by decide +kernel, by decide +kernel⟩
abbrev s__law_judged : Stmt := top 70
abbrev N__law_judged : List Str := ["_law_gaps", "_law_told", "_law_due", "_law_at", "_law_shift"]
theorem sc__law_judged : FnScope N__law_judged ["_law_gaps"] (defScope s__law_judged) := ⟨rfl, rfl, rfl, by decide +kernel, rfl, by decide +kernel, by decide +kernel⟩
abbrev s__law_kinds : Stmt := top 58
abbrev N__law_kinds : List Str := ["_law_found", "_law_table", "_law_told", "_law_row"]
theorem sc__law_kinds : FnScope N__law_kinds [] (defScope s__law_kinds) := ⟨rfl, rfl, rfl, by decide +kernel, rfl, by decide +kernel, by decide +kernel⟩
abbrev s__law_all_rows : Stmt := top 63
abbrev N__law_all_rows : List Str := ["_law_parts", "_law_size", "_law_found", "_law_part", "_law_times"]
theorem sc__law_all_rows : FnScope N__law_all_rows ["_law_parts", "_law_size"] (defScope s__law_all_rows) := ⟨rfl, rfl, rfl, by decide +kernel, rfl, by decide +kernel, by decide +kernel⟩
abbrev s__law_number : Stmt := top 53
abbrev N__law_number : List Str := ["_law_script", "_law_index", "_law_cell_here", "_law_blend"]
theorem sc__law_number : FnScope N__law_number ["_law_script", "_law_index"] (defScope s__law_number) := ⟨rfl, rfl, rfl, by decide +kernel, rfl, by decide +kernel, by decide +kernel⟩
abbrev s__law_take : Stmt := top 54
abbrev N__law_take : List Str := ["_law_draw", "_law_many"]
theorem sc__law_take : FnScope N__law_take ["_law_draw", "_law_many"] (defScope s__law_take) := ⟨rfl, rfl, rfl, by decide +kernel, rfl, by decide +kernel, by decide +kernel⟩
abbrev s__law_pick : Stmt := top 55
abbrev N__law_pick : List Str := ["_law_draw", "_law_items"]
theorem sc__law_pick : FnScope N__law_pick ["_law_draw", "_law_items"] (defScope s__law_pick) := ⟨rfl, rfl, rfl, by decide +kernel, rfl, by decide +kernel, by decide +kernel⟩
abbrev s__law_cell : Stmt := top 56
abbrev N__law_cell : List Str := ["_law_draw", "_law_yarns", "_law_kinds_here"]
theorem sc__law_cell : FnScope N__law_cell ["_law_draw", "_law_yarns"] (defScope s__law_cell) := ⟨rfl, rfl, rfl, by decide +kernel, rfl, by decide +kernel, by decide +kernel⟩
abbrev s__law_word : Stmt := top 57
abbrev N__law_word : List Str := ["_law_draw", "_law_many", "_law_yarns", "_law_at"]
theorem sc__law_word : FnScope N__law_word ["_law_draw", "_law_many", "_law_yarns"] (defScope s__law_word) := ⟨rfl, rfl, rfl, by decide +kernel, rfl, by decide +kernel, by decide +kernel⟩
abbrev s__law_easy_row : Stmt := top 65
abbrev N__law_easy_row : List Str := ["_law_draw", "_law_yarns", "_law_ones", "_law_group", "_law_kind"]
theorem sc__law_easy_row : FnScope N__law_easy_row ["_law_draw", "_law_yarns"] (defScope s__law_easy_row) := ⟨rfl, rfl, rfl, by decide +kernel, rfl, by decide +kernel, by decide +kernel⟩
abbrev s__law_makes : Stmt := top 60
abbrev N__law_makes : List Str := ["_law_word_here", "_law_kinds_here", "_law_kind", "_law_yarn"]
theorem sc__law_makes : FnScope N__law_makes ["_law_word_here", "_law_kinds_here"] (defScope s__law_makes) := ⟨rfl, rfl, rfl, by decide +kernel, rfl, by decide +kernel, by decide +kernel⟩
abbrev s__law_takes : Stmt := top 59
abbrev N__law_takes : List Str := ["_law_word_here", "_law_kinds_here", "_law_kind", "_law_yarn"]
theorem sc__law_takes : FnScope N__law_takes ["_law_word_here", "_law_kinds_here"] (defScope s__law_takes) := ⟨rfl, rfl, rfl, by decide +kernel, rfl, by decide +kernel, by decide +kernel⟩
abbrev s_makes : Stmt := top 14
abbrev N_makes : List Str := ["word", "kind", "yarn"]
theorem sc_makes : FnScope N_makes ["word"] (defScope s_makes) := ⟨rfl, rfl, rfl, by decide +kernel, rfl, by decide +kernel, by decide +kernel⟩
abbrev s_rows_of : Stmt := top 36
abbrev N_rows_of : List Str := ["part"]
theorem sc_rows_of : FnScope N_rows_of ["part"] (defScope s_rows_of) := ⟨rfl, rfl, rfl, by decide +kernel, rfl, by decide +kernel, by decide +kernel⟩
abbrev s_takes : Stmt := top 13
abbrev N_takes : List Str := ["word", "kind", "yarn"]
theorem sc_takes : FnScope N_takes ["word"] (defScope s_takes) := ⟨rfl, rfl, rfl, by decide +kernel, rfl, by decide +kernel, by decide +kernel⟩
abbrev s_growth_of : Stmt := top 34
abbrev N_growth_of : List Str := ["parts", "found", "part", "row"]
theorem sc_growth_of : FnScope N_growth_of ["parts"] (defScope s_growth_of) := ⟨rfl, rfl, rfl, by decide +kernel, rfl, by decide +kernel, by decide +kernel⟩
abbrev s_is_line : Stmt := top 21
abbrev N_is_line : List Str := ["thing"]
theorem sc_is_line : FnScope N_is_line ["thing"] (defScope s_is_line) := ⟨rfl, rfl, rfl, by decide +kernel, rfl, by decide +kernel, by decide +kernel⟩
abbrev s_is_even : Stmt := top 31
abbrev N_is_even : List Str := ["row"]
theorem sc_is_even : FnScope N_is_even ["row"] (defScope s_is_even) := ⟨rfl, rfl, rfl, by decide +kernel, rfl, by decide +kernel, by decide +kernel⟩
abbrev s_is_kind : Stmt := top 9
abbrev N_is_kind : List Str := ["thing"]
theorem sc_is_kind : FnScope N_is_kind ["thing"] (defScope s_is_kind) := ⟨rfl, rfl, rfl, by decide +kernel, rfl, by decide +kernel, by decide +kernel⟩
abbrev s_is_yarn : Stmt := top 10
abbrev N_is_yarn : List Str := ["thing"]
theorem sc_is_yarn : FnScope N_is_yarn ["thing"] (defScope s_is_yarn) := ⟨rfl, rfl, rfl, by decide +kernel, rfl, by decide +kernel, by decide +kernel⟩
abbrev s_is_cell : Stmt := top 11
abbrev N_is_cell : List Str := ["thing"]
theorem sc_is_cell : FnScope N_is_cell ["thing"] (defScope s_is_cell) := ⟨rfl, rfl, rfl, by decide +kernel, rfl, by decide +kernel, by decide +kernel⟩
abbrev s_is_word : Stmt := top 12
abbrev N_is_word : List Str := ["thing", "cell"]
theorem sc_is_word : FnScope N_is_word ["thing"] (defScope s_is_word) := ⟨rfl, rfl, rfl, by decide +kernel, rfl, by decide +kernel, by decide +kernel⟩
abbrev s_is_row : Stmt := top 30
abbrev N_is_row : List Str := ["thing", "before", "rest", "after", "word"]
theorem sc_is_row : FnScope N_is_row ["thing"] (defScope s_is_row) := ⟨rfl, rfl, rfl, by decide +kernel, rfl, by decide +kernel, by decide +kernel⟩
abbrev s_change_of : Stmt := top 37
abbrev N_change_of : List Str := ["row"]
theorem sc_change_of : FnScope N_change_of ["row"] (defScope s_change_of) := ⟨rfl, rfl, rfl, by decide +kernel, rfl, by decide +kernel, by decide +kernel⟩
abbrev s_round_change : Stmt := top 38
abbrev N_round_change : List Str := ["part", "row"]
theorem sc_round_change : FnScope N_round_change ["part"] (defScope s_round_change) := ⟨rfl, rfl, rfl, by decide +kernel, rfl, by decide +kernel, by decide +kernel⟩
abbrev s_is_part : Stmt := top 32
abbrev N_is_part : List Str := ["thing", "row"]
theorem sc_is_part : FnScope N_is_part ["thing"] (defScope s_is_part) := ⟨rfl, rfl, rfl, by decide +kernel, rfl, by decide +kernel, by decide +kernel⟩
abbrev s_common : Stmt := top 17
abbrev N_common : List Str := ["one", "two", "rest", "last"]
theorem sc_common : FnScope N_common ["one", "two"] (defScope s_common) := ⟨rfl, rfl, rfl, by decide +kernel, rfl, by decide +kernel, by decide +kernel⟩
abbrev s_measure_of : Stmt := top 33
abbrev N_measure_of : List Str := ["parts", "found", "product", "shared", "part", "row"]
theorem sc_measure_of : FnScope N_measure_of ["parts"] (defScope s_measure_of) := ⟨rfl, rfl, rfl, by decide +kernel, rfl, by decide +kernel, by decide +kernel⟩
abbrev s_Piece___init__ : Stmt := inClass (top 35) 0
abbrev N_Piece___init__ : List Str := ["self", "way", "cast", "parts", "place", "part"]
theorem sc_Piece___init__ : FnScope N_Piece___init__ ["self", "way", "cast", "parts"] (defScope s_Piece___init__) := ⟨rfl, rfl, rfl, by decide +kernel, rfl, by decide +kernel, by decide +kernel⟩
abbrev s_plain_parts : Stmt := top 50
abbrev N_plain_parts : List Str := ["row", "many"]
theorem sc_plain_parts : FnScope N_plain_parts ["row", "many"] (defScope s_plain_parts) := ⟨rfl, rfl, rfl, by decide +kernel, rfl, by decide +kernel, by decide +kernel⟩
abbrev s_shaped : Stmt := top 51
abbrev N_shaped : List Str := ["way", "cast", "plain", "change", "gaps", "row", "parts", "gap"]
theorem sc_shaped : FnScope N_shaped ["way", "cast", "plain", "change", "gaps"] (defScope s_shaped) := ⟨rfl, rfl, rfl, by decide +kernel, rfl, by decide +kernel, by decide +kernel⟩
abbrev s__law_shaped : Stmt := top 71
abbrev N__law_shaped : List Str := ["_law_draw", "_law_kinds_here", "_law_plain", "_law_change", "_law_gaps", "_law_piece", "_law_due", "_law_gap", "_law_even_here", "_law_blocks", "_law_turn", "_law_part"]
theorem sc__law_shaped : FnScope N__law_shaped ["_law_draw", "_law_kinds_here"] (defScope s__law_shaped) := ⟨rfl, rfl, rfl, by decide +kernel, rfl, by decide +kernel, by decide +kernel⟩
abbrev s_schedule : Stmt := top 49
abbrev N_schedule : List Str := ["rows", "times", "gap", "more", "one", "many"]
theorem sc_schedule : FnScope N_schedule ["rows", "times"] (defScope s_schedule) := ⟨rfl, rfl, rfl, by decide +kernel, rfl, by decide +kernel, by decide +kernel⟩
abbrev s_law : Stmt := top 72
abbrev N_law : List Str := ["_law_script", "_law_draw", "_law_kinds_here", "_law_turn", "_law_many", "_law_total", "_law_told", "_law_shift", "_law_turned", "_law_at", "_law_late", "_law_moved", "_law_times", "_law_rows", "_law_plan", "_law_bad", "_law_turn2", "_law_gap", "_law_many2"]
theorem sc_law : FnScope N_law ["_law_script"] (defScope s_law) := ⟨rfl, rfl, rfl, by decide +kernel, rfl, by decide +kernel, by decide +kernel⟩
structure Txt (K : PySem.W.Frag) (w : World) (mg : Str → Option Value) (W : Wd) : Prop where
  cl4 : Cls K (W.cl 4)
  cl5 : Cls K (W.cl 5)
  cl6 : Cls K (W.cl 6)
  x3 : XCls K mg "BadGaps" (W.cl 3)
  x2 : XCls K mg "BadRow" (W.cl 2)
  g3 : mg "BadGaps" = some (.ref (W.cl 3))
  g5 : mg "Even" = some (.ref (W.cl 5))
  is5 : ∀ i t, is5 i = some t → InsC K (W.cl i) ∧ PySem.W.kitOne K (.ref (W.cl i)) (.ref (W.cl 5)) = some t
  tr3 : ∀ i b, tr3 i = some b → PySem.W.exmOne K (.ref (W.cl i)) (.ref (W.cl 3)) = some b
  n5_shift : NoAttr K (W.cl 5) "shift"
  n4_cast : NoAttr K (W.cl 4) "cast"
  n4_parts : NoAttr K (W.cl 4) "parts"
  n4_way : NoAttr K (W.cl 4) "way"
  n6_one : NoAttr K (W.cl 6) "one"
  n6_other : NoAttr K (W.cl 6) "other"
  n6_width : NoAttr K (W.cl 6) "width"
  b_abs : mg "abs" = none
  b_all : mg "all" = none
  b_any : mg "any" = none
  b_bool : mg "bool" = none
  b_enumerate : mg "enumerate" = none
  b_int : mg "int" = none
  b_isinstance : mg "isinstance" = none
  b_len : mg "len" = none
  b_list : mg "list" = none
  b_max : mg "max" = none
  b_min : mg "min" = none
  b_range : mg "range" = none
  b_set : mg "set" = none
  b_sorted : mg "sorted" = none
  b_str : mg "str" = none
  b_sum : mg "sum" = none
  b_tuple : mg "tuple" = none
  c_MOST : ∃ t, mg "MOST" = some (.int 60 t)
  c_MOST_BASE : ∃ t, mg "MOST_BASE" = some (.int 99 t)
  c_MOST_CELLS : ∃ t, mg "MOST_CELLS" = some (.int 60 t)
  c_MOST_CHANGE : ∃ t, mg "MOST_CHANGE" = some (.int 12 t)
  c_MOST_GROWTH : ∃ t, mg "MOST_GROWTH" = some (.int 12 t)
  c_MOST_MEASURE : ∃ t, mg "MOST_MEASURE" = some (.int 120 t)
  c_MOST_PARTS : ∃ t, mg "MOST_PARTS" = some (.int 40 t)
  c_MOST_REST : ∃ t, mg "MOST_REST" = some (.int 30 t)
  c_MOST_RISE : ∃ t, mg "MOST_RISE" = some (.int 9 t)
  c_MOST_ROWS : ∃ t, mg "MOST_ROWS" = some (.int 20 t)
  c_MOST_TOTAL : ∃ t, mg "MOST_TOTAL" = some (.int 10000 t)
  kt_KINDS : Tab K w W mg "KINDS" tb_KINDS
section
variable {P : Program} {w : World} {K : PySem.W.Frag} {mg : Str → Option Value} {base : Heap} {W : Wd}
theorem ok_Even___bool__ {f : Addr} {fd : FuncData} (F : Fun K "__bool__" "Even.__bool__" s_Even___bool__ f fd) (T : Txt K w mg W)  : FnOk P w K mg base (L2.CX P w) 1 f fd ["self"] (spD K W (f_Even___bool__) 1) :=
  okD F sc_Even___bool__ fun cdv A outer s H E hr =>
  (S_one (S_ret d_bl))
theorem ok_Even___init__ {f : Addr} {fd : FuncData} (F : Fun K "__init__" "Even.__init__" s_Even___init__ f fd) (T : Txt K w mg W)  : FnOk P w K mg base (L2.CX P w) 1 f fd ["self", "shift"] (spI K W (f_Even___init__) 5 1) :=
  okI F sc_Even___init__ rfl fun cdv A outer s H E hr =>
  (S_one (S_fld (c := 5) T.cl5 T.n5_shift (pv 0) (dv 1)))
theorem ok_is_number {f : Addr} {fd : FuncData} (F : Fun K "is_number" "is_number" s_is_number f fd) (T : Txt K w mg W)  : FnOk P w K mg base (L2.CX P w) 1 f fd ["thing"] (spD K W (f_is_number) 1) :=
  okD F sc_is_number fun cdv A outer s H E hr =>
  (S_one (S_ret (d_and (d_isi rfl T.b_isinstance rfl T.b_int (by decide +kernel) (dv 0)) (d_one (d_not (d_isi rfl T.b_isinstance rfl T.b_bool (by decide +kernel) (dv 0)))))))
theorem ok_check_gaps {f : Addr} {fd : FuncData} (F : Fun K "check_gaps" "check_gaps" s_check_gaps f fd) (T : Txt K w mg W) (G_is_number : Cal P w K mg base "is_number" 1 (spD K W (f_is_number) 1)) : FnOk P w K mg base (L2.CX P w) 2 f fd ["gaps"] (spD K W (f_check_gaps) 1) :=
  okD F sc_check_gaps fun cdv A outer s H E hr =>
  (S_cons (S_if (t_w (w_or (t_not (t_tru (d_isi rfl T.b_isinstance rfl T.b_list (by decide +kernel) (dv 0)))) (w_or1 (t_not (t_chain (op_le.or op_le_str) (op_le.or op_le_str) (q_CA _ _) (q_CA _ _) d_int (d_B call_len q_len rfl T.b_len (by decide +kernel) (ds_cons (dv 0) ds_nil)) (d_cint rfl T.c_MOST)))))) (S_one (S_raise rfl T.x3 rfl)) S_nil)
  (S_one (S_if (t_not (t_tru (d_B (cr_all rfl) q_all rfl T.b_all (by decide +kernel) (ds_cons (d_comp rfl sc_check_gaps.nd (i_of (dv 0)) (blkOk_by (own := [("gap", 1)]) (N := N_check_gaps) (sc := defScope s_check_gaps) (by decide +kernel)) (fun _ _ _ _ _ => (pg_name (i := 1) sc_check_gaps.nd rfl (Or.inl rfl))) (q_gV 1) (by decide) (fun _ _ _ _ _ => ts_nil) (fun _ _ _ _ _ => (d_and (c_call G_is_number (hr.mono (by decide)) rfl (ds_cons (dv 1) ds_nil) (al_cons al_nil)) (d_one (d_chain (op_le.or op_le_str) (op_le.or op_le_str) (q_CA _ _) (q_CA _ _) d_int (dv 1) (d_cint rfl T.c_MOST_TOTAL)))))) ds_nil)))) (S_one (S_raise rfl T.x3 rfl)) S_nil)))
theorem ok_spread_again {f : Addr} {fd : FuncData} (F : Fun K "spread_again" "spread_again" s_spread_again f fd) (T : Txt K w mg W)  : FnOk P w K mg base (L2.CX P w) 1 f fd ["gaps"] (spD K W (f_spread_again) 1) :=
  okD F sc_spread_again fun cdv A outer s H E hr =>
  (S_cons (S_asg (d_tup (ds_cons (d_B (cr_sum rfl) q_sum rfl T.b_sum (by decide +kernel) (ds_cons (dv 0) ds_nil)) (ds_cons (d_B call_len q_len rfl T.b_len (by decide +kernel) (ds_cons (dv 0) ds_nil)) ds_nil))) (pg_tup rfl (pgs_cons (pg_name (i := 1) sc_spread_again.nd rfl (Or.inr rfl)) (pgs_cons (pg_name (i := 2) sc_spread_again.nd rfl (Or.inr rfl)) pgs_nil))) (q_gT (q_gsC (q_gV 1) (q_gsC (q_gV 2) q_gsN)) (gl_C (gl_C gl_N))))
  (S_one (S_ret (d_comp rfl sc_spread_again.nd (i_rng1 rfl T.b_range (ds_cons (dv 2) ds_nil)) (blkOk_by (own := [("at", 3)]) (N := N_spread_again) (sc := defScope s_spread_again) (by decide +kernel)) (fun _ _ _ _ _ => (pg_name (i := 3) sc_spread_again.nd rfl (Or.inl rfl))) (q_gV 3) (by decide) (fun _ _ _ _ _ => ts_nil) (fun _ _ _ _ _ => (d_sub (d_div (d_mul (d_add (dv 3) d_int) (dv 1)) (dv 2)) (d_div (d_mul (dv 3) (dv 1)) (dv 2))))))))
theorem ok_Even_shows {f : Addr} {fd : FuncData} (F : Fun K "shows" "Even.shows" s_Even_shows f fd) (T : Txt K w mg W) (G_check_gaps : Cal P w K mg base "check_gaps" 2 (spD K W (f_check_gaps) 1)) (G_is_number : Cal P w K mg base "is_number" 1 (spD K W (f_is_number) 1)) (G_spread_again : Cal P w K mg base "spread_again" 1 (spD K W (f_spread_again) 1)) : FnOk P w K mg base (L2.CX P w) 3 f fd ["self", "gaps"] (spD K W (f_Even_shows) 2) :=
  okD F sc_Even_shows fun cdv A outer s H E hr =>
  (S_cons (S_exp (c_call G_check_gaps (hr.mono (by decide)) rfl (ds_cons (dv 1) ds_nil) (al_cons al_nil)))
  (S_cons (S_if (t_not (t_tru (c_call G_is_number (hr.mono (by decide)) rfl (ds_cons (d_fld T.cl5 T.n5_shift (dv 0)) ds_nil) (al_cons al_nil)))) (S_one (S_ret d_bl)) S_nil)
  (S_cons (S_asg (c_call G_spread_again (hr.mono (by decide)) rfl (ds_cons (dv 1) ds_nil) (al_cons al_nil)) (pg_name (i := 2) sc_Even_shows.nd rfl (Or.inr rfl)) (q_gV 2))
  (S_one (S_ret (d_eq hr.units (d_comp rfl sc_Even_shows.nd (i_rng1 rfl T.b_range (ds_cons (d_B call_len q_len rfl T.b_len (by decide +kernel) (ds_cons (dv 1) ds_nil)) ds_nil)) (blkOk_by (own := [("at", 3)]) (N := N_Even_shows) (sc := defScope s_Even_shows) (by decide +kernel)) (fun _ _ _ _ _ => (pg_name (i := 3) sc_Even_shows.nd rfl (Or.inl rfl))) (q_gV 3) (by decide) (fun _ _ _ _ _ => ts_nil) (fun _ _ _ _ _ => (d_ixA hr.units (dv 2) (d_mod (d_add (d_fld T.cl5 T.n5_shift (dv 0)) (dv 3)) (d_B call_len q_len rfl T.b_len (by decide +kernel) (ds_cons (dv 1) ds_nil)))))) (dv 1)))))))
theorem ok_Uneven___bool__ {f : Addr} {fd : FuncData} (F : Fun K "__bool__" "Uneven.__bool__" s_Uneven___bool__ f fd) (T : Txt K w mg W)  : FnOk P w K mg base (L2.CX P w) 1 f fd ["self"] (spD K W (f_Uneven___bool__) 1) :=
  okD F sc_Uneven___bool__ fun cdv A outer s H E hr =>
  (S_one (S_ret d_bl))
theorem ok_Uneven___init__ {f : Addr} {fd : FuncData} (F : Fun K "__init__" "Uneven.__init__" s_Uneven___init__ f fd) (T : Txt K w mg W)  : FnOk P w K mg base (L2.CX P w) 1 f fd ["self", "one", "other", "width"] (spI K W (f_Uneven___init__) 6 3) :=
  okI F sc_Uneven___init__ rfl fun cdv A outer s H E hr =>
  (S_cons (S_fld (c := 6) T.cl6 T.n6_one (pv 0) (dv 1))
  (S_cons (S_fld (c := 6) T.cl6 T.n6_other (pv 0) (dv 2))
  (S_one (S_fld (c := 6) T.cl6 T.n6_width (pv 0) (dv 3)))))
theorem ok_sum_from {f : Addr} {fd : FuncData} (F : Fun K "sum_from" "sum_from" s_sum_from f fd) (T : Txt K w mg W)  : FnOk P w K mg base (L2.CX P w) 1 f fd ["gaps", "start", "many"] (spD K W (f_sum_from) 3) :=
  okD F sc_sum_from fun cdv A outer s H E hr =>
  (S_one (S_ret (d_B (cr_sum rfl) q_sum rfl T.b_sum (by decide +kernel) (ds_cons (d_comp rfl sc_sum_from.nd (i_rng1 rfl T.b_range (ds_cons (dv 2) ds_nil)) (blkOk_by (own := [("at", 3)]) (N := N_sum_from) (sc := defScope s_sum_from) (by decide +kernel)) (fun _ _ _ _ _ => (pg_name (i := 3) sc_sum_from.nd rfl (Or.inl rfl))) (q_gV 3) (by decide) (fun _ _ _ _ _ => ts_nil) (fun _ _ _ _ _ => (d_ixA hr.units (dv 0) (d_mod (d_add (dv 1) (dv 3)) (d_B call_len q_len rfl T.b_len (by decide +kernel) (ds_cons (dv 0) ds_nil)))))) ds_nil))))
theorem ok_Uneven_shows {f : Addr} {fd : FuncData} (F : Fun K "shows" "Uneven.shows" s_Uneven_shows f fd) (T : Txt K w mg W) (G_check_gaps : Cal P w K mg base "check_gaps" 2 (spD K W (f_check_gaps) 1)) (G_is_number : Cal P w K mg base "is_number" 1 (spD K W (f_is_number) 1)) (G_sum_from : Cal P w K mg base "sum_from" 1 (spD K W (f_sum_from) 3)) : FnOk P w K mg base (L2.CX P w) 3 f fd ["self", "gaps"] (spD K W (f_Uneven_shows) 2) :=
  okD F sc_Uneven_shows fun cdv A outer s H E hr =>
  (S_cons (S_exp (c_call G_check_gaps (hr.mono (by decide)) rfl (ds_cons (dv 1) ds_nil) (al_cons al_nil)))
  (S_cons (S_if (t_not (t_tru (d_B (cr_all rfl) q_all rfl T.b_all (by decide +kernel) (ds_cons (d_comp rfl sc_Uneven_shows.nd (i_of (d_tup (ds_cons (d_fld T.cl6 T.n6_one (dv 0)) (ds_cons (d_fld T.cl6 T.n6_other (dv 0)) ds_nil)))) (blkOk_by (own := [("start", 2)]) (N := N_Uneven_shows) (sc := defScope s_Uneven_shows) (by decide +kernel)) (fun _ _ _ _ _ => (pg_name (i := 2) sc_Uneven_shows.nd rfl (Or.inl rfl))) (q_gV 2) (by decide) (fun _ _ _ _ _ => ts_nil) (fun _ _ _ _ _ => (d_and (c_call G_is_number (hr.mono (by decide)) rfl (ds_cons (dv 2) ds_nil) (al_cons al_nil)) (d_one (d_chain (op_le.or op_le_str) (op_lt.or op_lt_str) (q_CA _ _) q_lt d_int (dv 2) (d_B call_len q_len rfl T.b_len (by decide +kernel) (ds_cons (dv 1) ds_nil))))))) ds_nil)))) (S_one (S_ret d_bl)) S_nil)
  (S_cons (S_if (t_w (w_or (t_not (t_tru (c_call G_is_number (hr.mono (by decide)) rfl (ds_cons (d_fld T.cl6 T.n6_width (dv 0)) ds_nil) (al_cons al_nil)))) (w_or1 (t_not (t_chain (op_le.or op_le_str) (op_le.or op_le_str) (q_CA _ _) (q_CA _ _) d_int (d_fld T.cl6 T.n6_width (dv 0)) (d_B call_len q_len rfl T.b_len (by decide +kernel) (ds_cons (dv 1) ds_nil))))))) (S_one (S_ret d_bl)) S_nil)
  (S_one (S_ret (d_ge (c_call G_sum_from (hr.mono (by decide)) rfl (ds_cons (dv 1) (ds_cons (d_fld T.cl6 T.n6_one (dv 0)) (ds_cons (d_fld T.cl6 T.n6_width (dv 0)) ds_nil))) (al_cons (al_cons (al_cons al_nil)))) (d_add (c_call G_sum_from (hr.mono (by decide)) rfl (ds_cons (dv 1) (ds_cons (d_fld T.cl6 T.n6_other (dv 0)) (ds_cons (d_fld T.cl6 T.n6_width (dv 0)) ds_nil))) (al_cons (al_cons (al_cons al_nil)))) d_int)))))))
theorem ok__law_even {f : Addr} {fd : FuncData} (F : Fun K "_law_even" "_law_even" s__law_even f fd) (T : Txt K w mg W)  : FnOk P w K mg base (L2.CX P w) 1 f fd ["_law_gaps"] (spD K W (f__law_even) 1) :=
  okD F sc__law_even fun cdv A outer s H E hr =>
  (S_cons (S_asg (d_B call_len q_len rfl T.b_len (by decide +kernel) (ds_cons (dv 0) ds_nil)) (pg_name (i := 1) sc__law_even.nd rfl (Or.inl rfl)) (q_gV 1))
  (S_cons (S_for (L2.passes_of rfl) rfl (i_rng2 rfl T.b_range (ds_cons d_int (ds_cons (dv 1) ds_nil))) (pg_name (i := 2) sc__law_even.nd rfl (Or.inr rfl)) (q_gV 2) (S_cons (S_setComp (i := 3) rfl sc__law_even.nd rfl rfl (sw_true rfl rfl rfl (by decide +kernel)) (i_rng1 rfl T.b_range (ds_cons (dv 1) ds_nil)) (blkOk_by (own := [("_law_start", 4)]) (N := N__law_even) (sc := defScope s__law_even) (by decide +kernel)) (fun _ _ _ _ _ => (pg_name (i := 4) sc__law_even.nd rfl (Or.inl rfl))) (q_gV 4) (by decide) (fun _ _ _ _ _ => ts_nil) (fun _ _ _ _ _ => (d_B (cr_sum rfl) q_sum rfl T.b_sum (by decide +kernel) (ds_cons (d_cut (d_add (dv 0) (dv 0)) (o_some (dv 4)) (o_some (d_add (dv 4) (dv 2)))) ds_nil))))
  (S_one (S_if (t_gt (d_B (cr_max rfl) q_maxL rfl T.b_max (by decide +kernel) (ds_cons (dv 3) ds_nil)) (d_add (d_B (cr_min rfl) q_minL rfl T.b_min (by decide +kernel) (ds_cons (dv 3) ds_nil)) d_int)) (S_one (S_ret d_bl)) S_nil))))
  (S_one (S_ret d_bl))))
theorem ok__law_sum {f : Addr} {fd : FuncData} (F : Fun K "_law_sum" "_law_sum" s__law_sum f fd) (T : Txt K w mg W)  : FnOk P w K mg base (L2.CX P w) 1 f fd ["_law_gaps", "_law_start", "_law_width"] (spD K W (f__law_sum) 3) :=
  okD F sc__law_sum fun cdv A outer s H E hr =>
  (S_one (S_ret (d_B (cr_sum rfl) q_sum rfl T.b_sum (by decide +kernel) (ds_cons (d_cut (d_add (dv 0) (dv 0)) (o_some (dv 1)) (o_some (d_add (dv 1) (dv 2)))) ds_nil))))
theorem ok_judge_spread {f : Addr} {fd : FuncData} (F : Fun K "judge_spread" "judge_spread" s_judge_spread f fd) (T : Txt K w mg W) (G_check_gaps : Cal P w K mg base "check_gaps" 2 (spD K W (f_check_gaps) 1)) (G_spread_again : Cal P w K mg base "spread_again" 1 (spD K W (f_spread_again) 1)) (G_sum_from : Cal P w K mg base "sum_from" 1 (spD K W (f_sum_from) 3)) (G_Even___init__ : CalI P w K mg base (W.cl 5) "Even" 1 (spI K W (f_Even___init__) 5 1)) (G_Uneven___init__ : CalI P w K mg base (W.cl 6) "Uneven" 1 (spI K W (f_Uneven___init__) 6 3)) : FnOk P w K mg base (L2.CX P w) 3 f fd ["gaps"] (spD K W (f_judge_spread) 1) :=
  okD F sc_judge_spread fun cdv A outer s H E hr =>
  (S_cons (S_exp (c_call G_check_gaps (hr.mono (by decide)) rfl (ds_cons (dv 0) ds_nil) (al_cons al_nil)))
  (S_cons (S_for (L2.passes_of rfl) rfl (i_rng2 rfl T.b_range (ds_cons d_int (ds_cons (d_B call_len q_len rfl T.b_len (by decide +kernel) (ds_cons (dv 0) ds_nil)) ds_nil))) (pg_name (i := 1) sc_judge_spread.nd rfl (Or.inr rfl)) (q_gV 1) (S_cons (S_setComp (i := 2) rfl sc_judge_spread.nd rfl rfl (sw_true rfl rfl rfl (by decide +kernel)) (i_rng1 rfl T.b_range (ds_cons (d_B call_len q_len rfl T.b_len (by decide +kernel) (ds_cons (dv 0) ds_nil)) ds_nil)) (blkOk_by (own := [("start", 5)]) (N := N_judge_spread) (sc := defScope s_judge_spread) (by decide +kernel)) (fun _ _ _ _ _ => (pg_name (i := 5) sc_judge_spread.nd rfl (Or.inl rfl))) (q_gV 5) (by decide) (fun _ _ _ _ _ => ts_nil) (fun _ _ _ _ _ => (c_call G_sum_from (hr.mono (by decide)) rfl (ds_cons (dv 0) (ds_cons (dv 5) (ds_cons (dv 1) ds_nil))) (al_cons (al_cons (al_cons al_nil))))))
  (S_one (S_if (t_gt (d_sub (d_B (cr_max rfl) q_maxL rfl T.b_max (by decide +kernel) (ds_cons (dv 2) ds_nil)) (d_B (cr_min rfl) q_minL rfl T.b_min (by decide +kernel) (ds_cons (dv 2) ds_nil))) d_int) (S_one (S_ret (c_make G_Uneven___init__ (hr.mono (by decide)) rfl (ds_cons (d_idx (dv 2) (d_B (cr_max rfl) q_maxL rfl T.b_max (by decide +kernel) (ds_cons (dv 2) ds_nil))) (ds_cons (d_idx (dv 2) (d_B (cr_min rfl) q_minL rfl T.b_min (by decide +kernel) (ds_cons (dv 2) ds_nil))) (ds_cons (dv 1) ds_nil))) (al_cons (al_cons (al_cons al_nil)))))) S_nil))))
  (S_cons (S_asg (c_call G_spread_again (hr.mono (by decide)) rfl (ds_cons (dv 0) ds_nil) (al_cons al_nil)) (pg_name (i := 3) sc_judge_spread.nd rfl (Or.inl rfl)) (q_gV 3))
  (S_cons (S_asg d_int (pg_name (i := 4) sc_judge_spread.nd rfl (Or.inl rfl)) (q_gV 4))
  (S_cons (S_while (fun _ => 1000000) (L2.passes_of rfl) (t_ne hr.units (d_add (d_cut (dv 3) (o_some (dv 4)) o_none) (d_cut (dv 3) o_none (o_some (dv 4)))) (dv 0)) (S_one (S_aug (i := 4) sc_judge_spread.nd rfl (Or.inl rfl) d_int ip_add)))
  (S_one (S_ret (c_make G_Even___init__ (hr.mono (by decide)) rfl (ds_cons (dv 4) ds_nil) (al_cons al_nil)))))))))
theorem ok_spread {f : Addr} {fd : FuncData} (F : Fun K "spread" "spread" s_spread f fd) (T : Txt K w mg W) (G_is_number : Cal P w K mg base "is_number" 1 (spD K W (f_is_number) 1)) : FnOk P w K mg base (L2.CX P w) 2 f fd ["total", "parts"] (spD K W (f_spread) 2) :=
  okD F sc_spread fun cdv A outer s H E hr =>
  (S_cons (S_if (t_w (w_or (t_not (t_tru (c_call G_is_number (hr.mono (by decide)) rfl (ds_cons (dv 0) ds_nil) (al_cons al_nil)))) (w_or (t_not (t_tru (c_call G_is_number (hr.mono (by decide)) rfl (ds_cons (dv 1) ds_nil) (al_cons al_nil)))) (w_or (t_not (t_chain (op_le.or op_le_str) (op_le.or op_le_str) (q_CA _ _) (q_CA _ _) d_int (dv 0) (d_cint rfl T.c_MOST_TOTAL))) (w_or1 (t_not (t_chain (op_le.or op_le_str) (op_le.or op_le_str) (q_CA _ _) (q_CA _ _) d_int (dv 1) (d_cint rfl T.c_MOST)))))))) (S_one (S_raise rfl T.x3 rfl)) S_nil)
  (S_one (S_ret (d_comp rfl sc_spread.nd (i_rng1 rfl T.b_range (ds_cons (dv 1) ds_nil)) (blkOk_by (own := [("at", 2)]) (N := N_spread) (sc := defScope s_spread) (by decide +kernel)) (fun _ _ _ _ _ => (pg_name (i := 2) sc_spread.nd rfl (Or.inl rfl))) (q_gV 2) (by decide) (fun _ _ _ _ _ => ts_nil) (fun _ _ _ _ _ => (d_sub (d_div (d_mul (d_add (dv 2) d_int) (dv 0)) (dv 1)) (d_div (d_mul (dv 2) (dv 0)) (dv 1))))))))
theorem ok__law_judged {f : Addr} {fd : FuncData} (F : Fun K "_law_judged" "_law_judged" s__law_judged f fd) (T : Txt K w mg W) (G__law_even : Cal P w K mg base "_law_even" 1 (spD K W (f__law_even) 1)) (G__law_sum : Cal P w K mg base "_law_sum" 1 (spD K W (f__law_sum) 3)) (G_judge_spread : Cal P w K mg base "judge_spread" 3 (spD K W (f_judge_spread) 1)) (G_spread : Cal P w K mg base "spread" 2 (spD K W (f_spread) 2)) (G_Even___init__ : CalI P w K mg base (W.cl 5) "Even" 1 (spI K W (f_Even___init__) 5 1)) (G_Uneven___init__ : CalI P w K mg base (W.cl 6) "Uneven" 1 (spI K W (f_Uneven___init__) 6 3)) (G_Even___bool__ : CalM P w K mg base (W.cl 5) "__bool__" 1 (spD K W (f_Even___bool__) 1)) (G_Even_shows : CalM P w K mg base (W.cl 5) "shows" 3 (spD K W (f_Even_shows) 2)) (G_Uneven___bool__ : CalM P w K mg base (W.cl 6) "__bool__" 1 (spD K W (f_Uneven___bool__) 1)) (G_Uneven_shows : CalM P w K mg base (W.cl 6) "shows" 3 (spD K W (f_Uneven_shows) 2)) : FnOk P w K mg base (L2.CX P w) 4 f fd ["_law_gaps"] (spD K W (f__law_judged) 1) :=
  okD F sc__law_judged fun cdv A outer s H E hr =>
  (S_cons (S_asg (c_call G_judge_spread (hr.mono (by decide)) rfl (ds_cons (dv 0) ds_nil) (al_cons al_nil)) (pg_name (i := 1) sc__law_judged.nd rfl (Or.inr rfl)) (q_gV 1))
  (S_cons (S_if (t_w (w_or (t_ne hr.units (d_alt (d_boolO G_Even___bool__ (hr.mono (by decide)) rfl T.b_bool (dv 1)) (d_boolO G_Uneven___bool__ (hr.mono (by decide)) rfl T.b_bool (dv 1))) (c_call G__law_even (hr.mono (by decide)) rfl (ds_cons (dv 0) ds_nil) (al_cons al_nil))) (w_or1 (t_not (t_tru (d_alt (c_meth G_Even_shows (hr.mono (by decide)) T.cl5 (dv 1) (ds_cons (dv 0) ds_nil) (al_cons al_nil)) (c_meth G_Uneven_shows (hr.mono (by decide)) T.cl6 (dv 1) (ds_cons (dv 0) ds_nil) (al_cons al_nil)))))))) (S_one (S_ret d_bl)) S_nil)
  (S_cons (S_if (t_tru (d_isO rfl T.b_isinstance rfl T.g5 T.is5 (dv 1))) (S_cons (S_asg (c_call G_spread (hr.mono (by decide)) rfl (ds_cons (d_B (cr_sum rfl) q_sum rfl T.b_sum (by decide +kernel) (ds_cons (dv 0) ds_nil)) (ds_cons (d_B call_len q_len rfl T.b_len (by decide +kernel) (ds_cons (dv 0) ds_nil)) ds_nil)) (al_cons (al_cons al_nil))) (pg_name (i := 2) sc__law_judged.nd rfl (Or.inr rfl)) (q_gV 2))
  (S_cons (S_if (t_ne hr.units (d_comp rfl sc__law_judged.nd (i_rng1 rfl T.b_range (ds_cons (d_B call_len q_len rfl T.b_len (by decide +kernel) (ds_cons (dv 0) ds_nil)) ds_nil)) (blkOk_by (own := [("_law_at", 3)]) (N := N__law_judged) (sc := defScope s__law_judged) (by decide +kernel)) (fun _ _ _ _ _ => (pg_name (i := 3) sc__law_judged.nd rfl (Or.inl rfl))) (q_gV 3) (by decide) (fun _ _ _ _ _ => ts_nil) (fun _ _ _ _ _ => (d_ixA hr.units (dv 2) (d_mod (d_Ty call_intA q_intA rfl T.b_int (by decide +kernel) (ds_cons (d_add (d_fld T.cl5 T.n5_shift (dv 1)) (dv 3)) ds_nil)) (d_B call_len q_len rfl T.b_len (by decide +kernel) (ds_cons (dv 0) ds_nil)))))) (dv 0)) (S_one (S_ret d_bl)) S_nil)
  (S_one (S_ret (d_and (d_not (c_meth G_Uneven_shows (hr.mono (by decide)) T.cl6 (c_make G_Uneven___init__ (hr.mono (by decide)) rfl (ds_cons d_int (ds_cons (d_if (t_gt (d_B call_len q_len rfl T.b_len (by decide +kernel) (ds_cons (dv 0) ds_nil)) d_int) d_int d_int) (ds_cons d_int ds_nil))) (al_cons (al_cons (al_cons al_nil)))) (ds_cons (dv 0) ds_nil) (al_cons al_nil))) (d_one (c_meth G_Even_shows (hr.mono (by decide)) T.cl5 (c_make G_Even___init__ (hr.mono (by decide)) rfl (ds_cons (d_add (d_fld T.cl5 T.n5_shift (dv 1)) (d_B call_len q_len rfl T.b_len (by decide +kernel) (ds_cons (dv 0) ds_nil))) ds_nil) (al_cons al_nil)) (ds_cons (dv 0) ds_nil) (al_cons al_nil)))))))) S_nil)
  (S_cons (S_if (t_w (w_or (t_lt (c_call G__law_sum (hr.mono (by decide)) rfl (ds_cons (dv 0) (ds_cons (d_fld T.cl6 T.n6_one (dv 1)) (ds_cons (d_fld T.cl6 T.n6_width (dv 1)) ds_nil))) (al_cons (al_cons (al_cons al_nil)))) (d_add (c_call G__law_sum (hr.mono (by decide)) rfl (ds_cons (dv 0) (ds_cons (d_fld T.cl6 T.n6_other (dv 1)) (ds_cons (d_fld T.cl6 T.n6_width (dv 1)) ds_nil))) (al_cons (al_cons (al_cons al_nil)))) d_int)) (w_or1 (t_tru (c_meth G_Uneven_shows (hr.mono (by decide)) T.cl6 (c_make G_Uneven___init__ (hr.mono (by decide)) rfl (ds_cons (d_fld T.cl6 T.n6_other (dv 1)) (ds_cons (d_fld T.cl6 T.n6_one (dv 1)) (ds_cons (d_fld T.cl6 T.n6_width (dv 1)) ds_nil))) (al_cons (al_cons (al_cons al_nil)))) (ds_cons (dv 0) ds_nil) (al_cons al_nil)))))) (S_one (S_ret d_bl)) S_nil)
  (S_one (S_ret (d_and (d_not (d_B (cr_any rfl) q_any rfl T.b_any (by decide +kernel) (ds_cons (d_comp rfl sc__law_judged.nd (i_rng1 rfl T.b_range (ds_cons (d_B call_len q_len rfl T.b_len (by decide +kernel) (ds_cons (dv 0) ds_nil)) ds_nil)) (blkOk_by (own := [("_law_shift", 4)]) (N := N__law_judged) (sc := defScope s__law_judged) (by decide +kernel)) (fun _ _ _ _ _ => (pg_name (i := 4) sc__law_judged.nd rfl (Or.inl rfl))) (q_gV 4) (by decide) (fun _ _ _ _ _ => ts_nil) (fun _ _ _ _ _ => (c_meth G_Even_shows (hr.mono (by decide)) T.cl5 (c_make G_Even___init__ (hr.mono (by decide)) rfl (ds_cons (dv 4) ds_nil) (al_cons al_nil)) (ds_cons (dv 0) ds_nil) (al_cons al_nil)))) ds_nil))) (d_one (d_not (c_meth G_Uneven_shows (hr.mono (by decide)) T.cl6 (c_make G_Uneven___init__ (hr.mono (by decide)) rfl (ds_cons (d_fld T.cl6 T.n6_one (dv 1)) (ds_cons (d_fld T.cl6 T.n6_other (dv 1)) (ds_cons d_int ds_nil))) (al_cons (al_cons (al_cons al_nil)))) (ds_cons (dv 0) ds_nil) (al_cons al_nil)))))))))))
theorem ok__law_kinds {f : Addr} {fd : FuncData} (F : Fun K "_law_kinds" "_law_kinds" s__law_kinds f fd) (T : Txt K w mg W)  : FnOk P w K mg base (L2.CX P w) 1 f fd [] (spD K W (f__law_kinds) 0) :=
  okD F sc__law_kinds fun cdv A outer s H E hr =>
  (S_cons (S_dic_ (i := 0) sc__law_kinds.nd rfl (Or.inl rfl))
  (S_cons (S_asg d_str (pg_name (i := 1) sc__law_kinds.nd rfl (Or.inl rfl)) (q_gV 1))
  (S_cons (S_for (L2.passes_of rfl) rfl (i_of (d_split (dv 1) d_str)) (pg_name (i := 2) sc__law_kinds.nd rfl (Or.inl rfl)) (q_gV 2) (S_cons (S_asg (d_split (dv 2) d_str) (pg_name (i := 3) sc__law_kinds.nd rfl (Or.inl rfl)) (q_gV 3))
  (S_one (S_dput (i := 0) hr.units (pv 0) (d_ix (dv 3) d_int) (d_tup (ds_cons (d_Ty call_intA q_intA rfl T.b_int (by decide +kernel) (ds_cons (d_ix (dv 3) d_int) ds_nil)) (ds_cons (d_Ty call_intA q_intA rfl T.b_int (by decide +kernel) (ds_cons (d_ix (dv 3) d_int) ds_nil)) (ds_cons (d_ix (dv 3) d_int) (ds_cons (d_ix (dv 3) d_int) ds_nil)))))))))
  (S_frz (i := 0) (S_one (S_ret (dv 0)))))))
theorem ok__law_all_rows {f : Addr} {fd : FuncData} (F : Fun K "_law_all_rows" "_law_all_rows" s__law_all_rows f fd) (T : Txt K w mg W)  : FnOk P w K mg base (L2.CX P w) 1 f fd ["_law_parts", "_law_size"] (spD K W (f__law_all_rows) 2) :=
  okD F sc__law_all_rows fun cdv A outer s H E hr =>
  (S_cons (S_nil_ (i := 2) sc__law_all_rows.nd rfl (Or.inl rfl))
  (S_cons (S_for (L2.passes_of rfl) rfl (i_of (dv 0)) (pg_name (i := 3) sc__law_all_rows.nd rfl (Or.inl rfl)) (q_gV 3) (S_one (S_if (t_eq hr.units (d_ix (dv 3) d_int) d_str) (S_one (S_app (d_ix (dv 3) d_int) (pe_bm PySem.F.plainAttrs_list PySem.F.slot_list_append PySem.F.type_list_append mt_append (pv 2) (pa_cons (d_ix (dv 3) d_int) pa_nil)))) (S_cons (S_asg (d_add (d_ix (d_ix (dv 3) d_int) d_int) (d_mul (d_ix (d_ix (dv 3) d_int) d_int) (dv 1))) (pg_name (i := 4) sc__law_all_rows.nd rfl (Or.inl rfl)) (q_gV 4))
  (S_cons (S_if (t_lt (dv 4) d_int) (S_frz (i := 2) (S_one (S_ret (d_add (dv 2) (d_lst (ds_cons d_non ds_nil)))))) S_nil)
  (S_one (S_ext (i := 2) sc__law_all_rows.nd rfl (Or.inl rfl) (d_mulL (d_Ty (call_listA rfl) q_lstA rfl T.b_list (by decide +kernel) (ds_cons (d_ix (dv 3) d_int) ds_nil)) (dv 4)))))))))
  (S_frz (i := 2) (S_one (S_ret (dv 2))))))
theorem ok__law_number {f : Addr} {fd : FuncData} (F : Fun K "_law_number" "_law_number" s__law_number f fd) (T : Txt K w mg W)  : FnOk P w K mg base (L2.CX P w) 1 f fd ["_law_script", "_law_index"] (spD K W (f__law_number W) 2) :=
  okD F sc__law_number fun cdv A outer s H E hr =>
  (S_cons (S_if (t_scrNil hr.units (dv 0) (d_lst ds_nil)) (S_one (S_ret (d_Ty call_int1 q_int rfl T.b_int (by decide +kernel) (ds_cons (d_mod (d_add (d_mul (dv 1) d_int) d_int) d_int) ds_nil)))) S_nil)
  (S_cons (S_asg (d_ixS (dv 0) (d_mod (dv 1) (d_B call_len q_lenS rfl T.b_len (by decide +kernel) (ds_cons (dv 0) ds_nil)))) (pg_name (i := 2) sc__law_number.nd rfl (Or.inl rfl)) (q_gV 2))
  (S_cons (S_if (t_ge (d_B call_abs q_abs rfl T.b_abs (by decide +kernel) (ds_cons (dv 2) ds_nil)) (d_pow d_int d_int)) (S_one (S_asg (d_mod (dv 2) (d_pow d_int d_int)) (pg_name (i := 2) sc__law_number.nd rfl (Or.inl rfl)) (q_gV 2))) S_nil)
  (S_cons (S_asg (d_mod (d_add (d_mul (d_add (dv 2) (d_mul d_int (dv 1))) d_int) (d_mul d_int (d_B call_len q_lenS rfl T.b_len (by decide +kernel) (ds_cons (dv 0) ds_nil)))) d_int) (pg_name (i := 3) sc__law_number.nd rfl (Or.inl rfl)) (q_gV 3))
  (S_one (S_ret (d_Ty call_int1 q_int rfl T.b_int (by decide +kernel) (ds_cons (d_mod (d_add (d_mul (d_mod (d_mul (dv 3) d_int) d_int) d_int) (dv 1)) d_int) ds_nil))))))))
theorem ok__law_take {f : Addr} {fd : FuncData} (F : Fun K "_law_take" "_law_take" s__law_take f fd) (T : Txt K w mg W) (G__law_number : Cal P w K mg base "_law_number" 1 (spD K W (f__law_number W) 2)) : FnOk P w K mg base (L2.CX P w) 2 f fd ["_law_draw", "_law_many"] (spD K W (f__law_take W) 2) :=
  okD F sc__law_take fun cdv A outer s H E hr =>
  (S_cons (S_drw (dv 0))
  (S_one (S_ret (d_mod (d_Ty call_int1 q_int rfl T.b_int (by decide +kernel) (ds_cons (c_call G__law_number (hr.mono (by decide)) rfl (ds_cons (d_drw0 (dv 0)) (ds_cons (d_Ty call_int1 q_int rfl T.b_int (by decide +kernel) (ds_cons (d_drw1 (dv 0)) ds_nil)) ds_nil)) (al_cons (al_cons al_nil))) ds_nil)) (dv 1)))))
theorem ok__law_pick {f : Addr} {fd : FuncData} (F : Fun K "_law_pick" "_law_pick" s__law_pick f fd) (T : Txt K w mg W) (G__law_take : Cal P w K mg base "_law_take" 2 (spD K W (f__law_take W) 2)) : FnOk P w K mg base (L2.CX P w) 3 f fd ["_law_draw", "_law_items"] (spD K W (f__law_pick W) 2) :=
  okD F sc__law_pick fun cdv A outer s H E hr =>
  (S_one (S_ret (d_ixA hr.units (dv 1) (c_call G__law_take (hr.mono (by decide)) rfl (ds_cons (dv 0) (ds_cons (d_B call_len q_len rfl T.b_len (by decide +kernel) (ds_cons (dv 1) ds_nil)) ds_nil)) (al_cons (al_cons al_nil))))))
theorem ok__law_cell {f : Addr} {fd : FuncData} (F : Fun K "_law_cell" "_law_cell" s__law_cell f fd) (T : Txt K w mg W) (G__law_pick : Cal P w K mg base "_law_pick" 3 (spD K W (f__law_pick W) 2)) : FnOk P w K mg base (L2.CX P w) 4 f fd ["_law_draw", "_law_yarns"] (spD K W (f__law_cell W) 2) :=
  okD F sc__law_cell fun cdv A outer s H E hr =>
  (S_cons (S_asg (d_lst (ds_cons d_str (ds_cons d_str (ds_cons d_str (ds_cons d_str (ds_cons d_str (ds_cons d_str (ds_cons d_str (ds_cons d_str (ds_cons d_str (ds_cons d_str (ds_cons d_str (ds_cons d_str (ds_cons d_str (ds_cons d_str ds_nil))))))))))))))) (pg_name (i := 2) sc__law_cell.nd rfl (Or.inl rfl)) (q_gV 2))
  (S_one (S_ret (d_tup (ds_cons (c_call G__law_pick (hr.mono (by decide)) rfl (ds_cons (dv 0) (ds_cons (dv 2) ds_nil)) (al_cons (al_cons al_nil))) (ds_cons (c_call G__law_pick (hr.mono (by decide)) rfl (ds_cons (dv 0) (ds_cons (dv 1) ds_nil)) (al_cons (al_cons al_nil))) ds_nil))))))
theorem ok__law_word {f : Addr} {fd : FuncData} (F : Fun K "_law_word" "_law_word" s__law_word f fd) (T : Txt K w mg W) (G__law_cell : Cal P w K mg base "_law_cell" 4 (spD K W (f__law_cell W) 2)) (G__law_take : Cal P w K mg base "_law_take" 2 (spD K W (f__law_take W) 2)) : FnOk P w K mg base (L2.CX P w) 5 f fd ["_law_draw", "_law_many", "_law_yarns"] (spD K W (f__law_word W) 3) :=
  okD F sc__law_word fun cdv A outer s H E hr =>
  (S_one (S_ret (d_Ty call_tuple_of q_tupOf rfl T.b_tuple (by decide +kernel) (ds_cons (d_comp rfl sc__law_word.nd (i_rng1 rfl T.b_range (ds_cons (c_call G__law_take (hr.mono (by decide)) rfl (ds_cons (dv 0) (ds_cons (d_add (dv 1) d_int) ds_nil)) (al_cons (al_cons al_nil))) ds_nil)) (blkOk_by (own := [("_law_at", 3)]) (N := N__law_word) (sc := defScope s__law_word) (by decide +kernel)) (fun _ _ _ _ _ => (pg_name (i := 3) sc__law_word.nd rfl (Or.inl rfl))) (q_gV 3) (by decide) (fun _ _ _ _ _ => ts_nil) (fun _ _ _ _ _ => (c_call G__law_cell (hr.mono (by decide)) rfl (ds_cons (dv 0) (ds_cons (dv 2) ds_nil)) (al_cons (al_cons al_nil))))) ds_nil))))
theorem ok__law_easy_row {f : Addr} {fd : FuncData} (F : Fun K "_law_easy_row" "_law_easy_row" s__law_easy_row f fd) (T : Txt K w mg W) (G__law_pick : Cal P w K mg base "_law_pick" 3 (spD K W (f__law_pick W) 2)) (G__law_word : Cal P w K mg base "_law_word" 5 (spD K W (f__law_word W) 3)) : FnOk P w K mg base (L2.CX P w) 6 f fd ["_law_draw", "_law_yarns"] (spD K W (f__law_easy_row W) 2) :=
  okD F sc__law_easy_row fun cdv A outer s H E hr =>
  (S_cons (S_asg (d_lst (ds_cons (d_tup (ds_cons d_str ds_nil)) (ds_cons (d_tup (ds_cons d_str ds_nil)) (ds_cons (d_tup (ds_cons d_str ds_nil)) (ds_cons (d_tup (ds_cons d_str ds_nil)) (ds_cons (d_tup (ds_cons d_str ds_nil)) (ds_cons (d_tup (ds_cons d_str (ds_cons d_str ds_nil))) (ds_cons (d_tup (ds_cons d_str (ds_cons d_str ds_nil))) ds_nil)))))))) (pg_name (i := 2) sc__law_easy_row.nd rfl (Or.inl rfl)) (q_gV 2))
  (S_cons (S_asg (d_Ty call_tuple_of q_tupOf rfl T.b_tuple (by decide +kernel) (ds_cons (d_comp rfl sc__law_easy_row.nd (i_of (c_call G__law_pick (hr.mono (by decide)) rfl (ds_cons (dv 0) (ds_cons (dv 2) ds_nil)) (al_cons (al_cons al_nil)))) (blkOk_by (own := [("_law_kind", 4)]) (N := N__law_easy_row) (sc := defScope s__law_easy_row) (by decide +kernel)) (fun _ _ _ _ _ => (pg_name (i := 4) sc__law_easy_row.nd rfl (Or.inl rfl))) (q_gV 4) (by decide) (fun _ _ _ _ _ => ts_nil) (fun _ _ _ _ _ => (d_tup (ds_cons (dv 4) (ds_cons (c_call G__law_pick (hr.mono (by decide)) rfl (ds_cons (dv 0) (ds_cons (dv 1) ds_nil)) (al_cons (al_cons al_nil))) ds_nil))))) ds_nil)) (pg_name (i := 3) sc__law_easy_row.nd rfl (Or.inl rfl)) (q_gV 3))
  (S_one (S_ret (d_tup (ds_cons (c_call G__law_word (hr.mono (by decide)) rfl (ds_cons (dv 0) (ds_cons d_int (ds_cons (dv 1) ds_nil))) (al_cons (al_cons (al_cons al_nil)))) (ds_cons (dv 3) (ds_cons (c_call G__law_word (hr.mono (by decide)) rfl (ds_cons (dv 0) (ds_cons d_int (ds_cons (dv 1) ds_nil))) (al_cons (al_cons (al_cons al_nil)))) ds_nil))))))))
theorem ok__law_makes {f : Addr} {fd : FuncData} (F : Fun K "_law_makes" "_law_makes" s__law_makes f fd) (T : Txt K w mg W)  : FnOk P w K mg base (L2.CX P w) 1 f fd ["_law_word_here", "_law_kinds_here"] (spD K W (f__law_makes) 2) :=
  okD F sc__law_makes fun cdv A outer s H E hr =>
  (S_one (S_ret (d_B (cr_sum rfl) q_sum rfl T.b_sum (by decide +kernel) (ds_cons (d_comp rfl sc__law_makes.nd (i_of (dv 0)) (blkOk_by (own := [("_law_kind", 2), ("_law_yarn", 3)]) (N := N__law_makes) (sc := defScope s__law_makes) (by decide +kernel)) (fun _ _ _ _ _ => (pg_tup rfl (pgs_cons (pg_name (i := 2) sc__law_makes.nd rfl (Or.inl rfl)) (pgs_cons (pg_name (i := 3) sc__law_makes.nd rfl (Or.inl rfl)) pgs_nil)))) (q_gT (q_gsC (q_gV 2) (q_gsC (q_gV 3) q_gsN)) (gl_C (gl_C gl_N))) (by decide) (fun _ _ _ _ _ => ts_nil) (fun _ _ _ _ _ => (d_ix (d_ixA hr.units (dv 1) (dv 2)) d_int))) ds_nil))))
theorem ok__law_takes {f : Addr} {fd : FuncData} (F : Fun K "_law_takes" "_law_takes" s__law_takes f fd) (T : Txt K w mg W)  : FnOk P w K mg base (L2.CX P w) 1 f fd ["_law_word_here", "_law_kinds_here"] (spD K W (f__law_takes) 2) :=
  okD F sc__law_takes fun cdv A outer s H E hr =>
  (S_one (S_ret (d_B (cr_sum rfl) q_sum rfl T.b_sum (by decide +kernel) (ds_cons (d_comp rfl sc__law_takes.nd (i_of (dv 0)) (blkOk_by (own := [("_law_kind", 2), ("_law_yarn", 3)]) (N := N__law_takes) (sc := defScope s__law_takes) (by decide +kernel)) (fun _ _ _ _ _ => (pg_tup rfl (pgs_cons (pg_name (i := 2) sc__law_takes.nd rfl (Or.inl rfl)) (pgs_cons (pg_name (i := 3) sc__law_takes.nd rfl (Or.inl rfl)) pgs_nil)))) (q_gT (q_gsC (q_gV 2) (q_gsC (q_gV 3) q_gsN)) (gl_C (gl_C gl_N))) (by decide) (fun _ _ _ _ _ => ts_nil) (fun _ _ _ _ _ => (d_ix (d_ixA hr.units (dv 1) (dv 2)) d_int))) ds_nil))))
theorem ok_makes {f : Addr} {fd : FuncData} (F : Fun K "makes" "makes" s_makes f fd) (T : Txt K w mg W)  : FnOk P w K mg base (L2.CX P w) 1 f fd ["word"] (spD K W (f_makes) 1) :=
  okD F sc_makes fun cdv A outer s H E hr =>
  (S_one (S_ret (d_B (cr_sum rfl) q_sum rfl T.b_sum (by decide +kernel) (ds_cons (d_comp rfl sc_makes.nd (i_of (dv 0)) (blkOk_by (own := [("kind", 1), ("yarn", 2)]) (N := N_makes) (sc := defScope s_makes) (by decide +kernel)) (fun _ _ _ _ _ => (pg_tup rfl (pgs_cons (pg_name (i := 1) sc_makes.nd rfl (Or.inl rfl)) (pgs_cons (pg_name (i := 2) sc_makes.nd rfl (Or.inl rfl)) pgs_nil)))) (q_gT (q_gsC (q_gV 1) (q_gsC (q_gV 2) q_gsN)) (gl_C (gl_C gl_N))) (by decide) (fun _ _ _ _ _ => ts_nil) (fun _ _ _ _ _ => (d_ix (d_ixT T.kt_KINDS rfl (dv 1)) d_int))) ds_nil))))
theorem ok_rows_of {f : Addr} {fd : FuncData} (F : Fun K "rows_of" "rows_of" s_rows_of f fd) (T : Txt K w mg W)  : FnOk P w K mg base (L2.CX P w) 1 f fd ["part"] (spD K W (f_rows_of) 1) :=
  okD F sc_rows_of fun cdv A outer s H E hr =>
  (S_one (S_ret (d_if (t_eq hr.units (d_ix (dv 0) d_int) d_str) (d_cut (dv 0) (o_some d_int) o_none) (d_ix (dv 0) d_int))))
theorem ok_takes {f : Addr} {fd : FuncData} (F : Fun K "takes" "takes" s_takes f fd) (T : Txt K w mg W)  : FnOk P w K mg base (L2.CX P w) 1 f fd ["word"] (spD K W (f_takes) 1) :=
  okD F sc_takes fun cdv A outer s H E hr =>
  (S_one (S_ret (d_B (cr_sum rfl) q_sum rfl T.b_sum (by decide +kernel) (ds_cons (d_comp rfl sc_takes.nd (i_of (dv 0)) (blkOk_by (own := [("kind", 1), ("yarn", 2)]) (N := N_takes) (sc := defScope s_takes) (by decide +kernel)) (fun _ _ _ _ _ => (pg_tup rfl (pgs_cons (pg_name (i := 1) sc_takes.nd rfl (Or.inl rfl)) (pgs_cons (pg_name (i := 2) sc_takes.nd rfl (Or.inl rfl)) pgs_nil)))) (q_gT (q_gsC (q_gV 1) (q_gsC (q_gV 2) q_gsN)) (gl_C (gl_C gl_N))) (by decide) (fun _ _ _ _ _ => ts_nil) (fun _ _ _ _ _ => (d_ix (d_ixT T.kt_KINDS rfl (dv 1)) d_int))) ds_nil))))
theorem ok_growth_of {f : Addr} {fd : FuncData} (F : Fun K "growth_of" "growth_of" s_growth_of f fd) (T : Txt K w mg W) (G_makes : Cal P w K mg base "makes" 1 (spD K W (f_makes) 1)) (G_rows_of : Cal P w K mg base "rows_of" 1 (spD K W (f_rows_of) 1)) (G_takes : Cal P w K mg base "takes" 1 (spD K W (f_takes) 1)) : FnOk P w K mg base (L2.CX P w) 2 f fd ["parts"] (spD K W (f_growth_of) 1) :=
  okD F sc_growth_of fun cdv A outer s H E hr =>
  (S_cons (S_asg d_int (pg_name (i := 1) sc_growth_of.nd rfl (Or.inl rfl)) (q_gV 1))
  (S_cons (S_for (L2.passes_of rfl) rfl (i_of (dv 0)) (pg_name (i := 2) sc_growth_of.nd rfl (Or.inl rfl)) (q_gV 2) (S_one (S_for (L2.passes_of rfl) rfl (i_of (c_call G_rows_of (hr.mono (by decide)) rfl (ds_cons (dv 2) ds_nil) (al_cons al_nil))) (pg_name (i := 3) sc_growth_of.nd rfl (Or.inl rfl)) (q_gV 3) (S_one (S_mul (i := 1) sc_growth_of.nd rfl (Or.inl rfl) (d_if (t_gt (c_call G_makes (hr.mono (by decide)) rfl (ds_cons (d_ix (dv 3) d_int) ds_nil) (al_cons al_nil)) (c_call G_takes (hr.mono (by decide)) rfl (ds_cons (d_ix (dv 3) d_int) ds_nil) (al_cons al_nil))) (c_call G_makes (hr.mono (by decide)) rfl (ds_cons (d_ix (dv 3) d_int) ds_nil) (al_cons al_nil)) d_int))))))
  (S_one (S_ret (dv 1)))))
theorem ok_is_line {f : Addr} {fd : FuncData} (F : Fun K "is_line" "is_line" s_is_line f fd) (T : Txt K w mg W) (G_is_number : Cal P w K mg base "is_number" 1 (spD K W (f_is_number) 1)) : FnOk P w K mg base (L2.CX P w) 2 f fd ["thing"] (spD K W (f_is_line) 1) :=
  okD F sc_is_line fun cdv A outer s H E hr =>
  (S_cons (S_if (t_w (w_or (t_not (t_tru (d_isi rfl T.b_isinstance rfl T.b_tuple (by decide +kernel) (dv 0)))) (w_or1 (t_ne hr.units (d_B call_len q_len rfl T.b_len (by decide +kernel) (ds_cons (dv 0) ds_nil)) d_int)))) (S_one (S_ret d_bl)) S_nil)
  (S_cons (S_if (t_w (w_or (t_not (t_tru (c_call G_is_number (hr.mono (by decide)) rfl (ds_cons (d_ix (dv 0) d_int) ds_nil) (al_cons al_nil)))) (w_or1 (t_not (t_tru (c_call G_is_number (hr.mono (by decide)) rfl (ds_cons (d_ix (dv 0) d_int) ds_nil) (al_cons al_nil))))))) (S_one (S_ret d_bl)) S_nil)
  (S_one (S_ret (d_and (d_leA (d_B call_abs q_abs rfl T.b_abs (by decide +kernel) (ds_cons (d_ix (dv 0) d_int) ds_nil)) (d_cint rfl T.c_MOST_BASE)) (d_one (d_leA (d_B call_abs q_abs rfl T.b_abs (by decide +kernel) (ds_cons (d_ix (dv 0) d_int) ds_nil)) (d_cint rfl T.c_MOST_RISE))))))))
theorem ok_is_even {f : Addr} {fd : FuncData} (F : Fun K "is_even" "is_even" s_is_even f fd) (T : Txt K w mg W) (G_makes : Cal P w K mg base "makes" 1 (spD K W (f_makes) 1)) (G_takes : Cal P w K mg base "takes" 1 (spD K W (f_takes) 1)) : FnOk P w K mg base (L2.CX P w) 2 f fd ["row"] (spD K W (f_is_even) 1) :=
  okD F sc_is_even fun cdv A outer s H E hr =>
  (S_one (S_ret (d_eq hr.units (c_call G_takes (hr.mono (by decide)) rfl (ds_cons (d_ix (dv 0) d_int) ds_nil) (al_cons al_nil)) (c_call G_makes (hr.mono (by decide)) rfl (ds_cons (d_ix (dv 0) d_int) ds_nil) (al_cons al_nil)))))
theorem ok_is_kind {f : Addr} {fd : FuncData} (F : Fun K "is_kind" "is_kind" s_is_kind f fd) (T : Txt K w mg W)  : FnOk P w K mg base (L2.CX P w) 1 f fd ["thing"] (spD K W (f_is_kind) 1) :=
  okD F sc_is_kind fun cdv A outer s H E hr =>
  (S_one (S_ret (d_and (d_isi rfl T.b_isinstance rfl T.b_str (by decide +kernel) (dv 0)) (d_one (d_inT T.kt_KINDS rfl (dv 0))))))
theorem ok_is_yarn {f : Addr} {fd : FuncData} (F : Fun K "is_yarn" "is_yarn" s_is_yarn f fd) (T : Txt K w mg W)  : FnOk P w K mg base (L2.CX P w) 1 f fd ["thing"] (spD K W (f_is_yarn) 1) :=
  okD F sc_is_yarn fun cdv A outer s H E hr =>
  (S_one (S_ret (d_and (d_isi rfl T.b_isinstance rfl T.b_str (by decide +kernel) (dv 0)) (d_and (d_eq hr.units (d_B call_len q_len rfl T.b_len (by decide +kernel) (ds_cons (dv 0) ds_nil)) d_int) (d_one (d_chain (op_le.or op_le_str) (op_le.or op_le_str) (q_CA _ _) (q_CA _ _) d_str (dv 0) d_str))))))
theorem ok_is_cell {f : Addr} {fd : FuncData} (F : Fun K "is_cell" "is_cell" s_is_cell f fd) (T : Txt K w mg W) (G_is_kind : Cal P w K mg base "is_kind" 1 (spD K W (f_is_kind) 1)) (G_is_yarn : Cal P w K mg base "is_yarn" 1 (spD K W (f_is_yarn) 1)) : FnOk P w K mg base (L2.CX P w) 2 f fd ["thing"] (spD K W (f_is_cell) 1) :=
  okD F sc_is_cell fun cdv A outer s H E hr =>
  (S_one (S_ret (d_and (d_isi rfl T.b_isinstance rfl T.b_tuple (by decide +kernel) (dv 0)) (d_and (d_eq hr.units (d_B call_len q_len rfl T.b_len (by decide +kernel) (ds_cons (dv 0) ds_nil)) d_int) (d_and (c_call G_is_kind (hr.mono (by decide)) rfl (ds_cons (d_ix (dv 0) d_int) ds_nil) (al_cons al_nil)) (d_one (c_call G_is_yarn (hr.mono (by decide)) rfl (ds_cons (d_ix (dv 0) d_int) ds_nil) (al_cons al_nil))))))))
theorem ok_is_word {f : Addr} {fd : FuncData} (F : Fun K "is_word" "is_word" s_is_word f fd) (T : Txt K w mg W) (G_is_cell : Cal P w K mg base "is_cell" 2 (spD K W (f_is_cell) 1)) : FnOk P w K mg base (L2.CX P w) 3 f fd ["thing"] (spD K W (f_is_word) 1) :=
  okD F sc_is_word fun cdv A outer s H E hr =>
  (S_one (S_ret (d_and (d_isi rfl T.b_isinstance rfl T.b_tuple (by decide +kernel) (dv 0)) (d_one (d_B (cr_all rfl) q_all rfl T.b_all (by decide +kernel) (ds_cons (d_comp rfl sc_is_word.nd (i_of (dv 0)) (blkOk_by (own := [("cell", 1)]) (N := N_is_word) (sc := defScope s_is_word) (by decide +kernel)) (fun _ _ _ _ _ => (pg_name (i := 1) sc_is_word.nd rfl (Or.inl rfl))) (q_gV 1) (by decide) (fun _ _ _ _ _ => ts_nil) (fun _ _ _ _ _ => (c_call G_is_cell (hr.mono (by decide)) rfl (ds_cons (dv 1) ds_nil) (al_cons al_nil)))) ds_nil))))))
theorem ok_is_row {f : Addr} {fd : FuncData} (F : Fun K "is_row" "is_row" s_is_row f fd) (T : Txt K w mg W) (G_is_word : Cal P w K mg base "is_word" 3 (spD K W (f_is_word) 1)) (G_takes : Cal P w K mg base "takes" 1 (spD K W (f_takes) 1)) : FnOk P w K mg base (L2.CX P w) 4 f fd ["thing"] (spD K W (f_is_row) 1) :=
  okD F sc_is_row fun cdv A outer s H E hr =>
  (S_cons (S_if (t_w (w_or (t_not (t_tru (d_isi rfl T.b_isinstance rfl T.b_tuple (by decide +kernel) (dv 0)))) (w_or (t_ne hr.units (d_B call_len q_len rfl T.b_len (by decide +kernel) (ds_cons (dv 0) ds_nil)) d_int) (w_or1 (t_not (t_tru (d_B (cr_all rfl) q_all rfl T.b_all (by decide +kernel) (ds_cons (d_comp rfl sc_is_row.nd (i_of (dv 0)) (blkOk_by (own := [("word", 4)]) (N := N_is_row) (sc := defScope s_is_row) (by decide +kernel)) (fun _ _ _ _ _ => (pg_name (i := 4) sc_is_row.nd rfl (Or.inl rfl))) (q_gV 4) (by decide) (fun _ _ _ _ _ => ts_nil) (fun _ _ _ _ _ => (c_call G_is_word (hr.mono (by decide)) rfl (ds_cons (dv 4) ds_nil) (al_cons al_nil)))) ds_nil)))))))) (S_one (S_ret d_bl)) S_nil)
  (S_cons (S_asg (dv 0) (pg_tup rfl (pgs_cons (pg_name (i := 1) sc_is_row.nd rfl (Or.inl rfl)) (pgs_cons (pg_name (i := 2) sc_is_row.nd rfl (Or.inl rfl)) (pgs_cons (pg_name (i := 3) sc_is_row.nd rfl (Or.inl rfl)) pgs_nil)))) (q_gT (q_gsC (q_gV 1) (q_gsC (q_gV 2) (q_gsC (q_gV 3) q_gsN))) (gl_C (gl_C (gl_C gl_N)))))
  (S_cons (S_if (t_w (w_or (t_gt (d_B call_len q_len rfl T.b_len (by decide +kernel) (ds_cons (dv 1) ds_nil)) (d_cint rfl T.c_MOST_CELLS)) (w_or (t_gt (d_B call_len q_len rfl T.b_len (by decide +kernel) (ds_cons (dv 2) ds_nil)) (d_cint rfl T.c_MOST_REST)) (w_or1 (t_gt (d_B call_len q_len rfl T.b_len (by decide +kernel) (ds_cons (dv 3) ds_nil)) (d_cint rfl T.c_MOST_CELLS)))))) (S_one (S_ret d_bl)) S_nil)
  (S_one (S_ret (d_if (t_ne hr.units (dv 2) (d_tup ds_nil)) (d_gt (c_call G_takes (hr.mono (by decide)) rfl (ds_cons (dv 2) ds_nil) (al_cons al_nil)) d_int) (d_eq hr.units (dv 3) (d_tup ds_nil))))))))
theorem ok_change_of {f : Addr} {fd : FuncData} (F : Fun K "change_of" "change_of" s_change_of f fd) (T : Txt K w mg W) (G_makes : Cal P w K mg base "makes" 1 (spD K W (f_makes) 1)) (G_takes : Cal P w K mg base "takes" 1 (spD K W (f_takes) 1)) : FnOk P w K mg base (L2.CX P w) 2 f fd ["row"] (spD K W (f_change_of) 1) :=
  okD F sc_change_of fun cdv A outer s H E hr =>
  (S_one (S_ret (d_sub (d_sub (d_add (c_call G_makes (hr.mono (by decide)) rfl (ds_cons (d_ix (dv 0) d_int) ds_nil) (al_cons al_nil)) (c_call G_makes (hr.mono (by decide)) rfl (ds_cons (d_ix (dv 0) d_int) ds_nil) (al_cons al_nil))) (c_call G_takes (hr.mono (by decide)) rfl (ds_cons (d_ix (dv 0) d_int) ds_nil) (al_cons al_nil))) (c_call G_takes (hr.mono (by decide)) rfl (ds_cons (d_ix (dv 0) d_int) ds_nil) (al_cons al_nil)))))
theorem ok_round_change {f : Addr} {fd : FuncData} (F : Fun K "round_change" "round_change" s_round_change f fd) (T : Txt K w mg W) (G_change_of : Cal P w K mg base "change_of" 2 (spD K W (f_change_of) 1)) : FnOk P w K mg base (L2.CX P w) 3 f fd ["part"] (spD K W (f_round_change) 1) :=
  okD F sc_round_change fun cdv A outer s H E hr =>
  (S_one (S_ret (d_B (cr_sum rfl) q_sum rfl T.b_sum (by decide +kernel) (ds_cons (d_comp rfl sc_round_change.nd (i_of (d_ix (dv 0) d_int)) (blkOk_by (own := [("row", 1)]) (N := N_round_change) (sc := defScope s_round_change) (by decide +kernel)) (fun _ _ _ _ _ => (pg_name (i := 1) sc_round_change.nd rfl (Or.inl rfl))) (q_gV 1) (by decide) (fun _ _ _ _ _ => ts_nil) (fun _ _ _ _ _ => (c_call G_change_of (hr.mono (by decide)) rfl (ds_cons (dv 1) ds_nil) (al_cons al_nil)))) ds_nil))))
theorem ok_is_part {f : Addr} {fd : FuncData} (F : Fun K "is_part" "is_part" s_is_part f fd) (T : Txt K w mg W) (G_is_even : Cal P w K mg base "is_even" 2 (spD K W (f_is_even) 1)) (G_is_line : Cal P w K mg base "is_line" 2 (spD K W (f_is_line) 1)) (G_is_row : Cal P w K mg base "is_row" 4 (spD K W (f_is_row) 1)) (G_round_change : Cal P w K mg base "round_change" 3 (spD K W (f_round_change) 1)) : FnOk P w K mg base (L2.CX P w) 5 f fd ["thing"] (spD K W (f_is_part) 1) :=
  okD F sc_is_part fun cdv A outer s H E hr =>
  (S_cons (S_if (t_w (w_or (t_not (t_tru (d_isi rfl T.b_isinstance rfl T.b_tuple (by decide +kernel) (dv 0)))) (w_or1 (t_eq hr.units (d_B call_len q_len rfl T.b_len (by decide +kernel) (ds_cons (dv 0) ds_nil)) d_int)))) (S_one (S_ret d_bl)) S_nil)
  (S_cons (S_if (t_eq hr.units (d_ix (dv 0) d_int) d_str) (S_one (S_ret (d_and (d_eq hr.units (d_B call_len q_len rfl T.b_len (by decide +kernel) (ds_cons (dv 0) ds_nil)) d_int) (d_one (c_call G_is_row (hr.mono (by decide)) rfl (ds_cons (d_ix (dv 0) d_int) ds_nil) (al_cons al_nil)))))) S_nil)
  (S_cons (S_if (t_w (w_or (t_ne hr.units (d_ix (dv 0) d_int) d_str) (w_or (t_ne hr.units (d_B call_len q_len rfl T.b_len (by decide +kernel) (ds_cons (dv 0) ds_nil)) d_int) (w_or (t_not (t_tru (c_call G_is_line (hr.mono (by decide)) rfl (ds_cons (d_ix (dv 0) d_int) ds_nil) (al_cons al_nil)))) (w_or1 (t_not (t_tru (d_isi rfl T.b_isinstance rfl T.b_tuple (by decide +kernel) (d_ix (dv 0) d_int))))))))) (S_one (S_ret d_bl)) S_nil)
  (S_cons (S_if (t_w (w_or (t_not (t_chain (op_le.or op_le_str) (op_le.or op_le_str) (q_CA _ _) (q_CA _ _) d_int (d_B call_len q_len rfl T.b_len (by decide +kernel) (ds_cons (d_ix (dv 0) d_int) ds_nil)) (d_cint rfl T.c_MOST_ROWS))) (w_or1 (t_not (t_tru (d_B (cr_all rfl) q_all rfl T.b_all (by decide +kernel) (ds_cons (d_comp rfl sc_is_part.nd (i_of (d_ix (dv 0) d_int)) (blkOk_by (own := [("row", 1)]) (N := N_is_part) (sc := defScope s_is_part) (by decide +kernel)) (fun _ _ _ _ _ => (pg_name (i := 1) sc_is_part.nd rfl (Or.inl rfl))) (q_gV 1) (by decide) (fun _ _ _ _ _ => ts_nil) (fun _ _ _ _ _ => (d_and (c_call G_is_row (hr.mono (by decide)) rfl (ds_cons (dv 1) ds_nil) (al_cons al_nil)) (d_one (c_call G_is_even (hr.mono (by decide)) rfl (ds_cons (dv 1) ds_nil) (al_cons al_nil)))))) ds_nil))))))) (S_one (S_ret d_bl)) S_nil)
  (S_one (S_ret (d_leA (d_B call_abs q_abs rfl T.b_abs (by decide +kernel) (ds_cons (c_call G_round_change (hr.mono (by decide)) rfl (ds_cons (dv 0) ds_nil) (al_cons al_nil)) ds_nil)) (d_cint rfl T.c_MOST_CHANGE))))))))
theorem ok_common {f : Addr} {fd : FuncData} (F : Fun K "common" "common" s_common f fd) (T : Txt K w mg W)  : FnOk P w K mg base (L2.CX P w) 1 f fd ["one", "two"] (spD K W (f_common) 2) :=
  okD F sc_common fun cdv A outer s H E hr =>
  (S_cons (S_par2 (ps_par (i := 2) (j := 3) rfl sc_common.nd rfl rfl (by decide) rfl rfl (ds_cons (dv 0) (ds_cons (dv 1) ds_nil)) (by rfl)))
  (S_cons (S_while (fun _ => 1000000) (L2.passes_of rfl) (t_ne hr.units (dv 3) d_int) (S_one (S_par2 (ps_par (i := 2) (j := 3) rfl sc_common.nd rfl rfl (by decide) rfl rfl (ds_cons (dv 3) (ds_cons (d_mod (dv 2) (dv 3)) ds_nil)) (by rfl)))))
  (S_one (S_ret (d_mul (d_div (dv 0) (dv 2)) (dv 1))))))
theorem ok_measure_of {f : Addr} {fd : FuncData} (F : Fun K "measure_of" "measure_of" s_measure_of f fd) (T : Txt K w mg W) (G_common : Cal P w K mg base "common" 1 (spD K W (f_common) 2)) (G_is_even : Cal P w K mg base "is_even" 2 (spD K W (f_is_even) 1)) (G_rows_of : Cal P w K mg base "rows_of" 1 (spD K W (f_rows_of) 1)) (G_takes : Cal P w K mg base "takes" 1 (spD K W (f_takes) 1)) : FnOk P w K mg base (L2.CX P w) 3 f fd ["parts"] (spD K W (f_measure_of) 1) :=
  okD F sc_measure_of fun cdv A outer s H E hr =>
  (S_cons (S_asg (d_tup (ds_cons d_int (ds_cons d_int (ds_cons d_int ds_nil)))) (pg_tup rfl (pgs_cons (pg_name (i := 1) sc_measure_of.nd rfl (Or.inl rfl)) (pgs_cons (pg_name (i := 2) sc_measure_of.nd rfl (Or.inl rfl)) (pgs_cons (pg_name (i := 3) sc_measure_of.nd rfl (Or.inl rfl)) pgs_nil)))) (q_gT (q_gsC (q_gV 1) (q_gsC (q_gV 2) (q_gsC (q_gV 3) q_gsN))) (gl_C (gl_C (gl_C gl_N)))))
  (S_cons (S_for (L2.passes_of rfl) rfl (i_of (dv 0)) (pg_name (i := 4) sc_measure_of.nd rfl (Or.inl rfl)) (q_gV 4) (S_cons (S_if (t_eq hr.units (d_ix (dv 4) d_int) d_str) (S_one (S_asg (c_call G_common (hr.mono (by decide)) rfl (ds_cons (dv 1) (ds_cons (d_mul (d_add d_int (d_mul d_int (d_mod (d_B call_len q_len rfl T.b_len (by decide +kernel) (ds_cons (d_ix (dv 4) d_int) ds_nil)) d_int))) (d_B call_len q_len rfl T.b_len (by decide +kernel) (ds_cons (d_ix (dv 4) d_int) ds_nil))) ds_nil)) (al_cons (al_cons al_nil))) (pg_name (i := 1) sc_measure_of.nd rfl (Or.inl rfl)) (q_gV 1))) S_nil)
  (S_one (S_for (L2.passes_of rfl) rfl (i_of (c_call G_rows_of (hr.mono (by decide)) rfl (ds_cons (dv 4) ds_nil) (al_cons al_nil))) (pg_name (i := 5) sc_measure_of.nd rfl (Or.inl rfl)) (q_gV 5) (S_one (S_if (t_ne hr.units (d_ix (dv 5) d_int) (d_tup ds_nil)) (S_cons (S_asg (c_call G_common (hr.mono (by decide)) rfl (ds_cons (dv 3) (ds_cons (c_call G_takes (hr.mono (by decide)) rfl (ds_cons (d_ix (dv 5) d_int) ds_nil) (al_cons al_nil)) ds_nil)) (al_cons (al_cons al_nil))) (pg_name (i := 3) sc_measure_of.nd rfl (Or.inl rfl)) (q_gV 3))
  (S_one (S_mul (i := 2) sc_measure_of.nd rfl (Or.inl rfl) (d_if (t_tru (c_call G_is_even (hr.mono (by decide)) rfl (ds_cons (dv 5) ds_nil) (al_cons al_nil))) d_int (c_call G_takes (hr.mono (by decide)) rfl (ds_cons (d_ix (dv 5) d_int) ds_nil) (al_cons al_nil)))))) S_nil))))))
  (S_one (S_ret (c_call G_common (hr.mono (by decide)) rfl (ds_cons (dv 1) (ds_cons (d_mul (dv 2) (dv 3)) ds_nil)) (al_cons (al_cons al_nil)))))))
theorem ok_Piece___init__ {f : Addr} {fd : FuncData} (F : Fun K "__init__" "Piece.__init__" s_Piece___init__ f fd) (T : Txt K w mg W) (G_growth_of : Cal P w K mg base "growth_of" 2 (spD K W (f_growth_of) 1)) (G_is_line : Cal P w K mg base "is_line" 2 (spD K W (f_is_line) 1)) (G_is_part : Cal P w K mg base "is_part" 5 (spD K W (f_is_part) 1)) (G_measure_of : Cal P w K mg base "measure_of" 3 (spD K W (f_measure_of) 1)) : FnOk P w K mg base (L2.CX P w) 6 f fd ["self", "way", "cast", "parts"] (spI K W (f_Piece___init__) 4 3) :=
  okI F sc_Piece___init__ rfl fun cdv A outer s H E hr =>
  (S_cons (S_if (t_w (w_or (t_ni (u1 hr.units) (dv 1) (d_tup (ds_cons d_str (ds_cons d_str ds_nil)))) (w_or (t_not (t_tru (c_call G_is_line (hr.mono (by decide)) rfl (ds_cons (dv 2) ds_nil) (al_cons al_nil)))) (w_or (t_not (t_tru (d_isi rfl T.b_isinstance rfl T.b_tuple (by decide +kernel) (dv 3)))) (w_or1 (t_gt (d_B call_len q_len rfl T.b_len (by decide +kernel) (ds_cons (dv 3) ds_nil)) (d_cint rfl T.c_MOST_PARTS))))))) (S_one S_none) S_nil)
  (S_cons (S_for (L2.passes_of rfl) rfl (i_enum rfl T.b_enumerate (ds_cons (dv 3) ds_nil)) (pg_tup rfl (pgs_cons (pg_name (i := 4) sc_Piece___init__.nd rfl (Or.inl rfl)) (pgs_cons (pg_name (i := 5) sc_Piece___init__.nd rfl (Or.inl rfl)) pgs_nil))) (q_gT (q_gsC (q_gV 4) (q_gsC (q_gV 5) q_gsN)) (gl_C (gl_C gl_N))) (S_one (S_if (t_not (t_tru (c_call G_is_part (hr.mono (by decide)) rfl (ds_cons (dv 5) ds_nil) (al_cons al_nil)))) (S_one S_none) S_nil)))
  (S_cons (S_if (t_w (w_or (t_gt (c_call G_measure_of (hr.mono (by decide)) rfl (ds_cons (dv 3) ds_nil) (al_cons al_nil)) (d_cint rfl T.c_MOST_MEASURE)) (w_or1 (t_gt (c_call G_growth_of (hr.mono (by decide)) rfl (ds_cons (dv 3) ds_nil) (al_cons al_nil)) (d_cint rfl T.c_MOST_GROWTH))))) (S_one S_none) S_nil)
  (S_cons (S_fld (c := 4) T.cl4 T.n4_way (pv 0) (dv 1))
  (S_cons (S_fld (c := 4) T.cl4 T.n4_cast (pv 0) (dv 2))
  (S_one (S_fld (c := 4) T.cl4 T.n4_parts (pv 0) (dv 3))))))))
theorem ok_plain_parts {f : Addr} {fd : FuncData} (F : Fun K "plain_parts" "plain_parts" s_plain_parts f fd) (T : Txt K w mg W) (G_is_even : Cal P w K mg base "is_even" 2 (spD K W (f_is_even) 1)) : FnOk P w K mg base (L2.CX P w) 3 f fd ["row", "many"] (spD K W (f_plain_parts) 2) :=
  okD F sc_plain_parts fun cdv A outer s H E hr =>
  (S_cons (S_if (t_w (w_and (t_ge (dv 1) d_int) (w_and1 (t_tru (c_call G_is_even (hr.mono (by decide)) rfl (ds_cons (dv 0) ds_nil) (al_cons al_nil)))))) (S_one (S_ret (d_lst (ds_cons (d_tup (ds_cons d_str (ds_cons (d_tup (ds_cons (dv 1) (ds_cons d_int ds_nil))) (ds_cons (d_tup (ds_cons (dv 0) ds_nil)) ds_nil)))) ds_nil)))) S_nil)
  (S_one (S_ret (d_mulL (d_lst (ds_cons (d_tup (ds_cons d_str (ds_cons (dv 0) ds_nil))) ds_nil)) (dv 1)))))
theorem ok_shaped {f : Addr} {fd : FuncData} (F : Fun K "shaped" "shaped" s_shaped f fd) (T : Txt K w mg W) (G_check_gaps : Cal P w K mg base "check_gaps" 2 (spD K W (f_check_gaps) 1)) (G_is_row : Cal P w K mg base "is_row" 4 (spD K W (f_is_row) 1)) (G_plain_parts : Cal P w K mg base "plain_parts" 3 (spD K W (f_plain_parts) 2)) (G_Piece___init__ : CalI P w K mg base (W.cl 4) "Piece" 6 (spI K W (f_Piece___init__) 4 3)) : FnOk P w K mg base (L2.CX P w) 8 f fd ["way", "cast", "plain", "change", "gaps"] (spD K W (f_shaped) 5) :=
  okD F sc_shaped fun cdv A outer s H E hr =>
  (S_cons (S_exp (c_call G_check_gaps (hr.mono (by decide)) rfl (ds_cons (dv 4) ds_nil) (al_cons al_nil)))
  (S_cons (S_for (L2.passes_of rfl) rfl (i_of (d_tup (ds_cons (dv 2) (ds_cons (dv 3) ds_nil)))) (pg_name (i := 5) sc_shaped.nd rfl (Or.inl rfl)) (q_gV 5) (S_one (S_if (t_not (t_tru (c_call G_is_row (hr.mono (by decide)) rfl (ds_cons (dv 5) ds_nil) (al_cons al_nil)))) (S_one (S_raise rfl T.x2 rfl)) S_nil)))
  (S_cons (S_nil_ (i := 6) sc_shaped.nd rfl (Or.inl rfl))
  (S_cons (S_for (L2.passes_of rfl) rfl (i_of (dv 4)) (pg_name (i := 7) sc_shaped.nd rfl (Or.inl rfl)) (q_gV 7) (S_one (S_if (t_gt (dv 7) d_int) (S_one (S_extM (d_add (c_call G_plain_parts (hr.mono (by decide)) rfl (ds_cons (dv 2) (ds_cons (d_sub (dv 7) d_int) ds_nil)) (al_cons (al_cons al_nil))) (d_lst (ds_cons (d_tup (ds_cons d_str (ds_cons (dv 3) ds_nil))) ds_nil))) (pe_bm PySem.F.plainAttrs_list PySem.F.slot_list_extend PySem.F.type_list_extend mt_extend (pv 6) (pa_cons (d_add (c_call G_plain_parts (hr.mono (by decide)) rfl (ds_cons (dv 2) (ds_cons (d_sub (dv 7) d_int) ds_nil)) (al_cons (al_cons al_nil))) (d_lst (ds_cons (d_tup (ds_cons d_str (ds_cons (dv 3) ds_nil))) ds_nil))) pa_nil)))) S_nil)))
  (S_frz (i := 6) (S_one (S_ret (c_make G_Piece___init__ (hr.mono (by decide)) rfl (ds_cons (dv 0) (ds_cons (dv 1) (ds_cons (d_Ty call_tuple_of q_tupOf rfl T.b_tuple (by decide +kernel) (ds_cons (dv 6) ds_nil)) ds_nil))) (al_cons (al_cons (al_cons al_nil)))))))))))
theorem ok__law_shaped {f : Addr} {fd : FuncData} (F : Fun K "_law_shaped" "_law_shaped" s__law_shaped f fd) (T : Txt K w mg W) (G__law_all_rows : Cal P w K mg base "_law_all_rows" 1 (spD K W (f__law_all_rows) 2)) (G__law_easy_row : Cal P w K mg base "_law_easy_row" 6 (spD K W (f__law_easy_row W) 2)) (G__law_makes : Cal P w K mg base "_law_makes" 1 (spD K W (f__law_makes) 2)) (G__law_take : Cal P w K mg base "_law_take" 2 (spD K W (f__law_take W) 2)) (G__law_takes : Cal P w K mg base "_law_takes" 1 (spD K W (f__law_takes) 2)) (G_shaped : Cal P w K mg base "shaped" 8 (spD K W (f_shaped) 5)) : FnOk P w K mg base (L2.CX P w) 9 f fd ["_law_draw", "_law_kinds_here"] (spD K W (f__law_shaped W) 2) :=
  okD F sc__law_shaped fun cdv A outer s H E hr =>
  (S_cons (S_asg (d_tup (ds_cons (c_call G__law_easy_row (hr.mono (by decide)) rfl (ds_cons (dv 0) (ds_cons (d_lst (ds_cons d_str ds_nil)) ds_nil)) (al_cons (al_cons al_nil))) (ds_cons (c_call G__law_easy_row (hr.mono (by decide)) rfl (ds_cons (dv 0) (ds_cons (d_lst (ds_cons d_str ds_nil)) ds_nil)) (al_cons (al_cons al_nil))) ds_nil))) (pg_tup rfl (pgs_cons (pg_name (i := 2) sc__law_shaped.nd rfl (Or.inr rfl)) (pgs_cons (pg_name (i := 3) sc__law_shaped.nd rfl (Or.inl rfl)) pgs_nil))) (q_gT (q_gsC (q_gV 2) (q_gsC (q_gV 3) q_gsN)) (gl_C (gl_C gl_N))))
  (S_cons (S_if (t_eq hr.units (c_call G__law_take (hr.mono (by decide)) rfl (ds_cons (dv 0) (ds_cons d_int ds_nil)) (al_cons (al_cons al_nil))) d_int) (S_one (S_asg (d_tup (ds_cons (d_ix (dv 2) d_int) (ds_cons (d_tup (ds_cons (d_tup (ds_cons d_str (ds_cons d_str ds_nil))) ds_nil)) (ds_cons (d_ix (dv 2) d_int) ds_nil)))) (pg_name (i := 2) sc__law_shaped.nd rfl (Or.inr rfl)) (q_gV 2))) S_nil)
  (S_cons (S_asg (d_if (t_ne hr.units (d_ix (dv 2) d_int) (d_tup (ds_cons (d_tup (ds_cons d_str (ds_cons d_str ds_nil))) ds_nil))) (d_comp rfl sc__law_shaped.nd (i_rng1 rfl T.b_range (ds_cons (d_add d_int (c_call G__law_take (hr.mono (by decide)) rfl (ds_cons (dv 0) (ds_cons d_int ds_nil)) (al_cons (al_cons al_nil)))) ds_nil)) (blkOk_by (own := [("_law_turn", 10)]) (N := N__law_shaped) (sc := defScope s__law_shaped) (by decide +kernel)) (fun _ _ _ _ _ => (pg_name (i := 10) sc__law_shaped.nd rfl (Or.inl rfl))) (q_gV 10) (by decide) (fun _ _ _ _ _ => ts_nil) (fun _ _ _ _ _ => (c_call G__law_take (hr.mono (by decide)) rfl (ds_cons (dv 0) (ds_cons d_int ds_nil)) (al_cons (al_cons al_nil))))) (d_lst (ds_cons (c_call G__law_take (hr.mono (by decide)) rfl (ds_cons (dv 0) (ds_cons d_int ds_nil)) (al_cons (al_cons al_nil))) ds_nil))) (pg_name (i := 4) sc__law_shaped.nd rfl (Or.inl rfl)) (q_gV 4))
  (S_cons (S_asg (c_call G_shaped (hr.mono (by decide)) rfl (ds_cons d_str (ds_cons (d_tup (ds_cons d_int (ds_cons d_int ds_nil))) (ds_cons (dv 2) (ds_cons (dv 3) (ds_cons (dv 4) ds_nil))))) (al_cons (al_cons (al_cons (al_cons (al_cons al_nil)))))) (pg_name (i := 5) sc__law_shaped.nd rfl (Or.inl rfl)) (q_gV 5))
  (S_cons (S_asg (d_lst ds_nil) (pg_name (i := 6) sc__law_shaped.nd rfl (Or.inl rfl)) (q_gV 6))
  (S_cons (S_for (L2.passes_of rfl) rfl (i_of (dv 4)) (pg_name (i := 7) sc__law_shaped.nd rfl (Or.inl rfl)) (q_gV 7) (S_one (S_asg (d_add (dv 6) (d_if (t_gt (dv 7) d_int) (d_add (d_mulL (d_lst (ds_cons (dv 2) ds_nil)) (d_sub (dv 7) d_int)) (d_lst (ds_cons (dv 3) ds_nil))) (d_lst ds_nil))) (pg_name (i := 6) sc__law_shaped.nd rfl (Or.inl rfl)) (q_gV 6))))
  (S_cons (S_asg (d_eq hr.units (c_call G__law_takes (hr.mono (by decide)) rfl (ds_cons (d_ix (dv 2) d_int) (ds_cons (dv 1) ds_nil)) (al_cons (al_cons al_nil))) (c_call G__law_makes (hr.mono (by decide)) rfl (ds_cons (d_ix (dv 2) d_int) (ds_cons (dv 1) ds_nil)) (al_cons (al_cons al_nil)))) (pg_name (i := 8) sc__law_shaped.nd rfl (Or.inr rfl)) (q_gV 8))
  (S_cons (S_setComp (i := 9) rfl sc__law_shaped.nd rfl rfl (sw_true rfl rfl rfl (by decide +kernel)) (i_of (d_fld T.cl4 T.n4_parts (dv 5))) (blkOk_by (own := [("_law_part", 11)]) (N := N__law_shaped) (sc := defScope s__law_shaped) (by decide +kernel)) (fun _ _ _ _ _ => (pg_name (i := 11) sc__law_shaped.nd rfl (Or.inl rfl))) (q_gV 11) (by decide) (fun _ _ _ _ _ => (ts_one (t_eq hr.units (d_ix (dv 11) d_int) d_str))) (fun _ _ _ _ _ => (dv 11)))
  (S_cons (S_if (t_w (w_or (t_ne hr.units (d_B call_len q_len rfl T.b_len (by decide +kernel) (ds_cons (dv 9) ds_nil)) (d_B call_len q_len rfl T.b_len (by decide +kernel) (ds_cons (d_comp rfl sc__law_shaped.nd (i_of (dv 4)) (blkOk_by (own := [("_law_gap", 7)]) (N := N__law_shaped) (sc := defScope s__law_shaped) (by decide +kernel)) (fun _ _ _ _ _ => (pg_name (i := 7) sc__law_shaped.nd rfl (Or.inl rfl))) (q_gV 7) (by decide) (fun _ _ _ _ _ => (ts_one (t_w (w_and (t_ge (dv 7) d_int) (w_and1 (t_tru (dv 8))))))) (fun _ _ _ _ _ => (dv 7))) ds_nil))) (w_or1 (t_ne hr.units (d_tup (ds_cons (d_fld T.cl4 T.n4_way (dv 5)) (ds_cons (d_fld T.cl4 T.n4_cast (dv 5)) ds_nil))) (d_tup (ds_cons d_str (ds_cons (d_tup (ds_cons d_int (ds_cons d_int ds_nil))) ds_nil))))))) (S_one (S_ret d_bl)) S_nil)
  (S_one (S_ret (d_and (d_eq hr.units (c_call G__law_all_rows (hr.mono (by decide)) rfl (ds_cons (d_fld T.cl4 T.n4_parts (dv 5)) (ds_cons d_int ds_nil)) (al_cons (al_cons al_nil))) (dv 6)) (d_one (d_B (cr_all rfl) q_all rfl T.b_all (by decide +kernel) (ds_cons (d_comp rfl sc__law_shaped.nd (i_of (dv 9)) (blkOk_by (own := [("_law_part", 11)]) (N := N__law_shaped) (sc := defScope s__law_shaped) (by decide +kernel)) (fun _ _ _ _ _ => (pg_name (i := 11) sc__law_shaped.nd rfl (Or.inl rfl))) (q_gV 11) (by decide) (fun _ _ _ _ _ => ts_nil) (fun _ _ _ _ _ => (d_and (d_eq hr.units (d_ix (dv 11) d_int) (d_tup (ds_cons (dv 2) ds_nil))) (d_one (d_ge (d_ix (d_ix (dv 11) d_int) d_int) d_int))))) ds_nil)))))))))))))))
theorem ok_schedule {f : Addr} {fd : FuncData} (F : Fun K "schedule" "schedule" s_schedule f fd) (T : Txt K w mg W) (G_is_number : Cal P w K mg base "is_number" 1 (spD K W (f_is_number) 1)) : FnOk P w K mg base (L2.CX P w) 2 f fd ["rows", "times"] (spD K W (f_schedule) 2) :=
  okD F sc_schedule fun cdv A outer s H E hr =>
  (S_cons (S_if (t_w (w_or (t_not (t_tru (c_call G_is_number (hr.mono (by decide)) rfl (ds_cons (dv 0) ds_nil) (al_cons al_nil)))) (w_or (t_not (t_tru (c_call G_is_number (hr.mono (by decide)) rfl (ds_cons (dv 1) ds_nil) (al_cons al_nil)))) (w_or1 (t_not (t_chain3 (op_le.or op_le_str) (op_le.or op_le_str) (op_le.or op_le_str) (q_CA _ _) (q_CA _ _) (q_CA _ _) d_int (dv 1) (dv 0) (d_cint rfl T.c_MOST_TOTAL))))))) (S_one (S_raise rfl T.x3 rfl)) S_nil)
  (S_cons (S_par2 (ps_par (i := 2) (j := 3) rfl sc_schedule.nd rfl rfl (by decide) rfl rfl (ds_cons (d_div (dv 0) (dv 1)) (ds_cons (d_mod (dv 0) (dv 1)) ds_nil)) (by rfl)))
  (S_one (S_ret (d_comp rfl sc_schedule.nd (i_of (d_tup (ds_cons (d_tup (ds_cons (dv 2) (ds_cons (d_sub (dv 1) (dv 3)) ds_nil))) (ds_cons (d_tup (ds_cons (d_add (dv 2) d_int) (ds_cons (dv 3) ds_nil))) ds_nil)))) (blkOk_by (own := [("one", 4), ("many", 5)]) (N := N_schedule) (sc := defScope s_schedule) (by decide +kernel)) (fun _ _ _ _ _ => (pg_tup rfl (pgs_cons (pg_name (i := 4) sc_schedule.nd rfl (Or.inl rfl)) (pgs_cons (pg_name (i := 5) sc_schedule.nd rfl (Or.inl rfl)) pgs_nil)))) (q_gT (q_gsC (q_gV 4) (q_gsC (q_gV 5) q_gsN)) (gl_C (gl_C gl_N))) (by decide) (fun _ _ _ _ _ => (ts_one (t_gt (dv 5) d_int))) (fun _ _ _ _ _ => (d_tup (ds_cons (dv 4) (ds_cons (dv 5) ds_nil)))))))))
theorem body_law {f : Addr} {fd : FuncData} (F : Fun K "law" "law" s_law f fd) (T : Txt K w mg W) (G__law_judged : Cal P w K mg base "_law_judged" 4 (spD K W (f__law_judged) 1)) (G__law_kinds : Cal P w K mg base "_law_kinds" 1 (spD K W (f__law_kinds) 0)) (G__law_shaped : Cal P w K mg base "_law_shaped" 9 (spD K W (f__law_shaped W) 2)) (G__law_take : Cal P w K mg base "_law_take" 2 (spD K W (f__law_take W) 2)) (G_judge_spread : Cal P w K mg base "judge_spread" 3 (spD K W (f_judge_spread) 1)) (G_schedule : Cal P w K mg base "schedule" 2 (spD K W (f_schedule) 2)) (G_spread : Cal P w K mg base "spread" 2 (spD K W (f_spread) 2)) {k : Nat} (hk : 9 ≤ k) : ∀ (cdv : Value) (A : Around) (outer : List PySem.Env) (s : Shared) (H : Hp) (E : XK), Room k (A.deeper (envOfC "law" (defScope s_law) s.heap.objs.size f cdv)) → PDSs (cxOf (L2.CX P w) P w K mg base N_law "law" (defScope s_law) f cdv A outer s H E) W ((defBody s_law).drop 1) (g_law W) := fun cdv A outer s H E hr0 => by
  have hr := hr0.mono hk
  exact (S_cons (S_asg (c_call0 G__law_kinds (hr.mono (by decide)) rfl) (pg_name (i := 2) sc_law.nd rfl (Or.inl rfl)) (q_gV 2))
  (S_cons (S_for (L2.passes_of rfl) rfl (i_rng1 rfl T.b_range (ds_cons d_int ds_nil)) (pg_name (i := 3) sc_law.nd rfl (Or.inl rfl)) (q_gV 3) (S_cons (S_asg (d_add d_int (c_call G__law_take (hr.mono (by decide)) rfl (ds_cons (dv 1) (ds_cons d_int ds_nil)) (al_cons (al_cons al_nil)))) (pg_name (i := 4) sc_law.nd rfl (Or.inr rfl)) (q_gV 4))
  (S_cons (S_asg (d_if (t_gt (c_call G__law_take (hr.mono (by decide)) rfl (ds_cons (dv 1) (ds_cons d_int ds_nil)) (al_cons (al_cons al_nil))) d_int) (c_call G__law_take (hr.mono (by decide)) rfl (ds_cons (dv 1) (ds_cons (d_add (d_mul (dv 4) (d_add d_int (c_call G__law_take (hr.mono (by decide)) rfl (ds_cons (dv 1) (ds_cons d_int ds_nil)) (al_cons (al_cons al_nil))))) d_int) ds_nil)) (al_cons (al_cons al_nil))) (d_sub d_int (c_call G__law_take (hr.mono (by decide)) rfl (ds_cons (dv 1) (ds_cons d_int ds_nil)) (al_cons (al_cons al_nil))))) (pg_name (i := 5) sc_law.nd rfl (Or.inr rfl)) (q_gV 5))
  (S_cons (S_asg (d_tup (ds_cons (c_call G_spread (hr.mono (by decide)) rfl (ds_cons (dv 5) (ds_cons (dv 4) ds_nil)) (al_cons (al_cons al_nil))) (ds_cons (c_call G__law_take (hr.mono (by decide)) rfl (ds_cons (dv 1) (ds_cons (dv 4) ds_nil)) (al_cons (al_cons al_nil))) ds_nil))) (pg_tup rfl (pgs_cons (pg_name (i := 6) sc_law.nd rfl (Or.inr rfl)) (pgs_cons (pg_name (i := 7) sc_law.nd rfl (Or.inl rfl)) pgs_nil))) (q_gT (q_gsC (q_gV 6) (q_gsC (q_gV 7) q_gsN)) (gl_C (gl_C gl_N))))
  (S_cons (S_if (t_w (w_or (t_ne hr.units (d_B call_len q_len rfl T.b_len (by decide +kernel) (ds_cons (dv 6) ds_nil)) (dv 4)) (w_or (t_ne hr.units (d_B (cr_sum rfl) q_sum rfl T.b_sum (by decide +kernel) (ds_cons (dv 6) ds_nil)) (dv 5)) (w_or1 (t_ne hr.units (d_comp rfl sc_law.nd (i_rng1 rfl T.b_range (ds_cons (dv 4) ds_nil)) (blkOk_by (own := [("_law_at", 9)]) (N := N_law) (sc := defScope s_law) (by decide +kernel)) (fun _ _ _ _ _ => (pg_name (i := 9) sc_law.nd rfl (Or.inl rfl))) (q_gV 9) (by decide) (fun _ _ _ _ _ => ts_nil) (fun _ _ _ _ _ => (d_B (cr_sum rfl) q_sum rfl T.b_sum (by decide +kernel) (ds_cons (d_cut (dv 6) o_none (o_some (d_add (dv 9) d_int))) ds_nil)))) (d_comp rfl sc_law.nd (i_rng1 rfl T.b_range (ds_cons (dv 4) ds_nil)) (blkOk_by (own := [("_law_at", 9)]) (N := N_law) (sc := defScope s_law) (by decide +kernel)) (fun _ _ _ _ _ => (pg_name (i := 9) sc_law.nd rfl (Or.inl rfl))) (q_gV 9) (by decide) (fun _ _ _ _ _ => ts_nil) (fun _ _ _ _ _ => (d_div (d_mul (d_add (dv 9) d_int) (dv 5)) (dv 4))))))))) (S_one (S_ret d_bl)) S_nil)
  (S_cons (S_asg (d_add (d_cut (dv 6) (o_some (dv 7)) o_none) (d_cut (dv 6) o_none (o_some (dv 7)))) (pg_name (i := 8) sc_law.nd rfl (Or.inl rfl)) (q_gV 8))
  (S_cons (S_if (t_w (w_or (t_not (t_tru (c_call G__law_judged (hr.mono (by decide)) rfl (ds_cons (dv 6) ds_nil) (al_cons al_nil)))) (w_or1 (t_not (t_tru (c_call G__law_judged (hr.mono (by decide)) rfl (ds_cons (dv 8) ds_nil) (al_cons al_nil))))))) (S_one (S_ret d_bl)) S_nil)
  (S_cons (S_par2 (ps_par (i := 9) (j := 10) rfl sc_law.nd rfl rfl (by decide) rfl rfl (ds_cons (c_call G__law_take (hr.mono (by decide)) rfl (ds_cons (dv 1) (ds_cons (dv 4) ds_nil)) (al_cons (al_cons al_nil))) (ds_cons (c_call G__law_take (hr.mono (by decide)) rfl (ds_cons (dv 1) (ds_cons (dv 4) ds_nil)) (al_cons (al_cons al_nil))) ds_nil)) (by rfl)))
  (S_cons (S_ownN (i := 11) sc_law.nd rfl (Or.inl rfl) (n_list rfl T.b_list (by decide +kernel) (dv 8)))
  (S_cons (S_if (t_gt (d_ownIx (pv 11) (dv 9)) d_int) (S_one (S_putL2 (i := 11) rfl (pv 11) (pv 11) (d_tup (ds_cons (d_sub (d_ownIx (pv 11) (dv 9)) d_int) (ds_cons (d_add (d_ownIx (pv 11) (dv 10)) (d_if (t_ne hr.units (dv 9) (dv 10)) d_int d_int)) ds_nil))) (dv 9) (dv 10))) S_nil)
  (S_frz (i := 11) (S_cons (S_if (t_w (w_or (t_not (t_tru (c_call G__law_judged (hr.mono (by decide)) rfl (ds_cons (dv 11) ds_nil) (al_cons al_nil)))) (w_or1 (t_not (t_tru (c_call G__law_judged (hr.mono (by decide)) rfl (ds_cons (d_comp rfl sc_law.nd (i_rng1 rfl T.b_range (ds_cons (dv 4) ds_nil)) (blkOk_by (own := [("_law_turn2", 16)]) (N := N_law) (sc := defScope s_law) (by decide +kernel)) (fun _ _ _ _ _ => (pg_name (i := 16) sc_law.nd rfl (Or.inl rfl))) (q_gV 16) (by decide) (fun _ _ _ _ _ => ts_nil) (fun _ _ _ _ _ => (c_call G__law_take (hr.mono (by decide)) rfl (ds_cons (dv 1) (ds_cons d_int ds_nil)) (al_cons (al_cons al_nil))))) ds_nil) (al_cons al_nil))))))) (S_one (S_ret d_bl)) S_nil)
  (S_cons (S_asg (d_add d_int (c_call G__law_take (hr.mono (by decide)) rfl (ds_cons (dv 1) (ds_cons d_int ds_nil)) (al_cons (al_cons al_nil)))) (pg_name (i := 12) sc_law.nd rfl (Or.inl rfl)) (q_gV 12))
  (S_cons (S_asg (d_add (dv 12) (c_call G__law_take (hr.mono (by decide)) rfl (ds_cons (dv 1) (ds_cons d_int ds_nil)) (al_cons (al_cons al_nil)))) (pg_name (i := 13) sc_law.nd rfl (Or.inl rfl)) (q_gV 13))
  (S_cons (S_asg (c_call G_schedule (hr.mono (by decide)) rfl (ds_cons (dv 13) (ds_cons (dv 12) ds_nil)) (al_cons (al_cons al_nil))) (pg_name (i := 14) sc_law.nd rfl (Or.inl rfl)) (q_gV 14))
  (S_cons (S_if (t_w (w_or (t_ne hr.units (d_B (cr_sum rfl) q_sum rfl T.b_sum (by decide +kernel) (ds_cons (d_comp rfl sc_law.nd (i_of (dv 14)) (blkOk_by (own := [("_law_gap", 17), ("_law_many2", 18)]) (N := N_law) (sc := defScope s_law) (by decide +kernel)) (fun _ _ _ _ _ => (pg_tup rfl (pgs_cons (pg_name (i := 17) sc_law.nd rfl (Or.inl rfl)) (pgs_cons (pg_name (i := 18) sc_law.nd rfl (Or.inl rfl)) pgs_nil)))) (q_gT (q_gsC (q_gV 17) (q_gsC (q_gV 18) q_gsN)) (gl_C (gl_C gl_N))) (by decide) (fun _ _ _ _ _ => ts_nil) (fun _ _ _ _ _ => (d_mul (dv 17) (dv 18)))) ds_nil)) (dv 13)) (w_or1 (t_ne hr.units (d_B (cr_sum rfl) q_sum rfl T.b_sum (by decide +kernel) (ds_cons (d_comp rfl sc_law.nd (i_of (dv 14)) (blkOk_by (own := [("_law_gap", 17), ("_law_many2", 18)]) (N := N_law) (sc := defScope s_law) (by decide +kernel)) (fun _ _ _ _ _ => (pg_tup rfl (pgs_cons (pg_name (i := 17) sc_law.nd rfl (Or.inl rfl)) (pgs_cons (pg_name (i := 18) sc_law.nd rfl (Or.inl rfl)) pgs_nil)))) (q_gT (q_gsC (q_gV 17) (q_gsC (q_gV 18) q_gsN)) (gl_C (gl_C gl_N))) (by decide) (fun _ _ _ _ _ => ts_nil) (fun _ _ _ _ _ => (dv 18))) ds_nil)) (dv 12))))) (S_one (S_ret d_bl)) S_nil)
  (S_cons (S_if (t_ne hr.units (d_comp rfl sc_law.nd (i_of (dv 14)) (blkOk_by (own := [("_law_gap", 17), ("_law_many2", 18)]) (N := N_law) (sc := defScope s_law) (by decide +kernel)) (fun _ _ _ _ _ => (pg_tup rfl (pgs_cons (pg_name (i := 17) sc_law.nd rfl (Or.inl rfl)) (pgs_cons (pg_name (i := 18) sc_law.nd rfl (Or.inl rfl)) pgs_nil)))) (q_gT (q_gsC (q_gV 17) (q_gsC (q_gV 18) q_gsN)) (gl_C (gl_C gl_N))) (by decide) (fun _ _ _ _ _ => ts_nil) (fun _ _ _ _ _ => (dv 17))) (d_sortSet rfl T.b_sorted rfl T.b_set (d_comp rfl sc_law.nd (i_of (dv 14)) (blkOk_by (own := [("_law_gap", 17), ("_law_many2", 18)]) (N := N_law) (sc := defScope s_law) (by decide +kernel)) (fun _ _ _ _ _ => (pg_tup rfl (pgs_cons (pg_name (i := 17) sc_law.nd rfl (Or.inl rfl)) (pgs_cons (pg_name (i := 18) sc_law.nd rfl (Or.inl rfl)) pgs_nil)))) (q_gT (q_gsC (q_gV 17) (q_gsC (q_gV 18) q_gsN)) (gl_C (gl_C gl_N))) (by decide) (fun _ _ _ _ _ => ts_nil) (fun _ _ _ _ _ => (dv 17))))) (S_one (S_ret d_bl)) S_nil)
  (S_one (S_if (t_w (w_or (t_gt (d_ix (d_ix (dv 14) (d_neg d_int)) d_int) (d_add (d_ix (d_ix (dv 14) d_int) d_int) d_int)) (w_or1 (t_lt (d_B (cr_min rfl) q_minL rfl T.b_min (by decide +kernel) (ds_cons (d_comp rfl sc_law.nd (i_of (dv 14)) (blkOk_by (own := [("_law_gap", 17), ("_law_many2", 18)]) (N := N_law) (sc := defScope s_law) (by decide +kernel)) (fun _ _ _ _ _ => (pg_tup rfl (pgs_cons (pg_name (i := 17) sc_law.nd rfl (Or.inl rfl)) (pgs_cons (pg_name (i := 18) sc_law.nd rfl (Or.inl rfl)) pgs_nil)))) (q_gT (q_gsC (q_gV 17) (q_gsC (q_gV 18) q_gsN)) (gl_C (gl_C gl_N))) (by decide) (fun _ _ _ _ _ => ts_nil) (fun _ _ _ _ _ => (dv 18))) ds_nil)) d_int)))) (S_one (S_ret d_bl)) S_nil)))))))))))))))))))
  (S_cons (S_for (L2.passes_of rfl) rfl (i_of (d_tup (ds_cons (d_tup (ds_cons (d_neg d_int) (ds_cons d_int ds_nil))) (ds_cons (d_tup (ds_cons d_int (ds_cons d_int ds_nil))) (ds_cons (d_tup (ds_cons d_int (ds_cons d_int ds_nil))) (ds_cons (d_tup (ds_cons d_int (ds_cons d_int ds_nil))) (ds_cons (d_tup (ds_cons d_bl (ds_cons d_int ds_nil))) (ds_cons (d_tup (ds_cons d_int (ds_cons d_non ds_nil))) ds_nil)))))))) (pg_name (i := 15) sc_law.nd rfl (Or.inl rfl)) (q_gV 15) (S_one (S_try rfl rfl ⟨rfl, by decide, .inl T.g3⟩ T.tr3 (fun pn xe po => (S_consX (S_expX (c_call G_spread (hr.mono (by decide)) rfl (ds_cons (d_ix (dv 15) d_int) (ds_cons (d_ix (dv 15) d_int) ds_nil)) (al_cons (al_cons al_nil)))) (S_one (S_ret d_bl)))) (fun a pn => (S_one S_pass)))))
  (S_cons (S_for (L2.passes_of rfl) rfl (i_of (d_tup (ds_cons (d_lst ds_nil) (ds_cons (d_mulL (d_lst (ds_cons d_int ds_nil)) d_int) (ds_cons (d_lst (ds_cons d_int (ds_cons (d_neg d_int) ds_nil))) (ds_cons (d_lst (ds_cons d_bl ds_nil)) (ds_cons (d_tup (ds_cons d_int (ds_cons d_int ds_nil))) (ds_cons d_non (ds_cons (d_lst (ds_cons d_int ds_nil)) ds_nil))))))))) (pg_name (i := 15) sc_law.nd rfl (Or.inl rfl)) (q_gV 15) (S_one (S_try rfl rfl ⟨rfl, by decide, .inl T.g3⟩ T.tr3 (fun pn xe po => (S_consX (S_expX (c_call G_judge_spread (hr.mono (by decide)) rfl (ds_cons (dv 15) ds_nil) (al_cons al_nil))) (S_one (S_ret d_bl)))) (fun a pn => (S_one S_pass)))))
  (S_one (S_ret (c_call G__law_shaped (hr.mono (by decide)) rfl (ds_cons (dv 1) (ds_cons (dv 2) ds_nil)) (al_cons (al_cons al_nil)))))))))
end
end P_k57_whole_spread
end

section
set_option Elab.async false
set_option linter.all false
set_option autoImplicit false
set_option maxRecDepth 100000
namespace K57
/-! ### rings of gaps -/
/-- a gap of the ring -/
def G (g : List Nat) (i : Nat) : Nat := g.getD (i % g.length) 0
/-- the sum of so many gaps from the first one on -/
def P (g : List Nat) : Nat → Nat
  | 0 => 0
  | i + 1 => P g i + G g i
def sumTo (f : Nat → Nat) : Nat → Nat
  | 0 => 0
  | k + 1 => sumTo f k + f k
theorem G_per (g : List Nat) (i : Nat) : G g (i + g.length) = G g i := by unfold G; rw [Nat.add_mod_right]
theorem P_per (g : List Nat) : ∀ i, P g (i + g.length) = P g i + P g g.length
  | 0 => by rw [Nat.zero_add]; simp [P]
  | i + 1 => by
    rw [Nat.add_right_comm]
    show P g (i + g.length) + G g (i + g.length) = P g i + G g i + P g g.length
    rw [P_per g i, G_per]
    omega
theorem P_mono (g : List Nat) : ∀ {i j : Nat}, i ≤ j → P g i ≤ P g j := by
  intro i j h
  induction j with
  | zero => have : i = 0 := by omega
            subst this; exact Nat.le_refl _
  | succ j ih =>
    by_cases e : i = j + 1
    · subst e; exact Nat.le_refl _
    · exact Nat.le_trans (ih (by omega)) (Nat.le_add_right _ _)
/-- a stretch of so many gaps -/
def win (g : List Nat) (a w : Nat) : Nat := P g (a + w) - P g a
theorem win_add (g : List Nat) (a w : Nat) : P g a + win g a w = P g (a + w) := by
  unfold win
  have := P_mono g (Nat.le_add_right a w)
  omega
theorem win_per (g : List Nat) (a w : Nat) : win g (a + g.length) w = win g a w := by
  have h1 := win_add g (a + g.length) w
  have h2 := win_add g a w
  rw [show a + g.length + w = a + w + g.length by omega, P_per, P_per] at h1
  omega
theorem sum_shift (g : List Nat) (w : Nat) : ∀ n, sumTo (fun a => P g (a + w + 1)) n + P g w = sumTo (fun a => P g (a + w)) n + P g (n + w)
  | 0 => by simp [sumTo]
  | n + 1 => by
    have ih := sum_shift g w n
    show sumTo (fun a => P g (a + w + 1)) n + P g (n + w + 1) + P g w = sumTo (fun a => P g (a + w)) n + P g (n + w) + P g (n + 1 + w)
    rw [show n + 1 + w = n + w + 1 by omega]
    omega
/-- all stretches of a width together -/
theorem sum_win (g : List Nat) : ∀ w, sumTo (fun a => P g (a + w)) g.length = sumTo (fun a => P g a) g.length + w * P g g.length
  | 0 => by simp
  | w + 1 => by
    have h := sum_shift g w g.length
    have ih := sum_win g w
    have p := P_per g w
    rw [Nat.add_comm w g.length] at p
    have e : (fun a => P g (a + (w + 1))) = fun a => P g (a + w + 1) := rfl
    rw [e, Nat.succ_mul]
    omega
theorem sum_le {f h : Nat → Nat} : ∀ {n : Nat}, (∀ a, a < n → f a ≤ h a) → sumTo f n ≤ sumTo h n
  | 0, _ => Nat.le_refl _
  | n + 1, q => Nat.add_le_add (sum_le fun a ha => q a (by omega)) (q n (by omega))
theorem sum_lt {f h : Nat → Nat} {i : Nat} : ∀ {n : Nat}, i < n → f i < h i → (∀ a, a < n → f a ≤ h a) → sumTo f n < sumTo h n
  | 0, h0, _, _ => by omega
  | n + 1, h0, h1, q => by
    by_cases e : i = n
    · subst e
      exact Nat.add_lt_add_of_le_of_lt (sum_le fun a ha => q a (by omega)) h1
    · exact Nat.add_lt_add_of_lt_of_le (sum_lt (by omega) h1 fun a ha => q a (by omega)) (q n (by omega))
theorem sum_const (f : Nat → Nat) (c : Nat) : ∀ n, sumTo (fun a => f a + c) n = sumTo f n + n * c
  | 0 => by simp [sumTo]
  | n + 1 => by
    show sumTo (fun a => f a + c) n + (f n + c) = sumTo f n + f n + (n + 1) * c
    rw [sum_const f c n, Nat.succ_mul]
    omega
def Even (g : List Nat) : Prop := ∀ w, 1 ≤ w → w < g.length → ∀ a, a < g.length → ∀ b, b < g.length → win g a w ≤ win g b w + 1
/-- somewhere the sums run highest over the even line -/
theorem top (d : Nat → Int) : ∀ n, 0 < n → ∃ i, i < n ∧ ∀ j, j < n → d j ≤ d i
  | 0, h => by omega
  | 1, _ => ⟨0, by omega, fun j hj => by have : j = 0 := by omega
                                         subst this; exact Int.le_refl _⟩
  | n + 2, _ => by
    obtain ⟨i, h1, h2⟩ := top d (n + 1) (by omega)
    by_cases e : d i ≤ d (n + 1)
    · refine ⟨n + 1, by omega, fun j hj => ?_⟩
      by_cases z : j = n + 1
      · subst z; exact Int.le_refl _
      · exact Int.le_trans (h2 j (by omega)) e
    · refine ⟨i, by omega, fun j hj => ?_⟩
      by_cases z : j = n + 1
      · subst z; omega
      · exact h2 j (by omega)
/-- an even ring is the spread one, turned -/
theorem even_spread {g : List Nat} (h0 : g ≠ []) (he : Even g) : ∃ i, i < g.length ∧ ∀ w, w ≤ g.length → win g i w = w * P g g.length / g.length := by
  have hn : 0 < g.length := List.length_pos_iff.mpr h0
  obtain ⟨i, h1, h2⟩ := top (fun i => (g.length : Int) * P g i - i * P g g.length) g.length hn
  refine ⟨i, h1, fun w hw => ?_⟩
  -- no higher
  have up : g.length * win g i w ≤ w * P g g.length := by
    have a := win_add g i w
    have key : (g.length : Int) * P g (i + w) - (i + w : Nat) * P g g.length ≤ g.length * P g i - i * P g g.length := by
      by_cases z : i + w < g.length
      · exact h2 (i + w) z
      · have k := h2 (i + w - g.length) (by omega)
        have p := P_per g (i + w - g.length)
        rw [show i + w - g.length + g.length = i + w by omega] at p
        rw [p]
        have c1 : ((i + w - g.length : Nat) : Int) = (i : Int) + w - g.length := by omega
        have c2 : ((i + w : Nat) : Int) = (i : Int) + w := by omega
        have c3 : ((P g (i + w - g.length) + P g g.length : Nat) : Int) = (P g (i + w - g.length) : Int) + P g g.length := by omega
        rw [c1] at k
        rw [c2, c3]
        have e1 : ((i : Int) + w - g.length) * P g g.length = (i : Int) * P g g.length + w * P g g.length - g.length * P g g.length := by
          rw [Int.sub_mul, Int.add_mul]
        have e2 : (g.length : Int) * ((P g (i + w - g.length) : Int) + P g g.length) = g.length * P g (i + w - g.length) + g.length * P g g.length := Int.mul_add _ _ _
        have e3 : ((i : Int) + w) * P g g.length = (i : Int) * P g g.length + w * P g g.length := Int.add_mul _ _ _
        rw [e1] at k
        rw [e2, e3]
        omega
    have a' : (P g (i + w) : Int) = P g i + win g i w := by omega
    rw [a'] at key
    have e2 : (g.length : Int) * ((P g i : Int) + win g i w) = g.length * P g i + g.length * win g i w := Int.mul_add _ _ _
    have c2 : ((i + w : Nat) : Int) = (i : Int) + w := by omega
    have e3 : ((i : Int) + w) * P g g.length = (i : Int) * P g g.length + w * P g g.length := Int.add_mul _ _ _
    rw [e2, c2, e3] at key
    have : (g.length : Int) * win g i w ≤ w * P g g.length := by omega
    exact_mod_cast this
  -- no lower
  have low : w * P g g.length < g.length * (win g i w + 1) := by
    have q : ∀ a, a < g.length → P g (a + w) ≤ P g a + (win g i w + 1) := fun a ha => by
      have a1 := win_add g a w
      by_cases z : w = 0
      · subst z
        rw [Nat.add_zero]
        omega
      · by_cases z2 : w = g.length
        · subst z2
          have := P_per g a
          have := P_per g i
          have := win_add g i g.length
          omega
        · have := he w (by omega) (by omega) a ha i h1
          omega
    have s1 := sum_lt (f := fun a => P g (a + w)) (h := fun a => P g a + (win g i w + 1)) h1 (by
      have := win_add g i w
      show P g (i + w) < P g i + (win g i w + 1)
      omega) q
    rw [sum_win, sum_const] at s1
    have s2 : sumTo (P g) g.length + w * P g g.length < sumTo (P g) g.length + g.length * (win g i w + 1) := s1
    omega
  symm
  exact Nat.div_eq_of_lt_le (by rw [Nat.mul_comm (win g i w)]; exact up) (by rw [Nat.mul_comm (win g i w + 1)]; exact low)
/-- stretches of floors differ by one at most -/
theorem floor_even (n S a b w : Nat) (hn : 0 < n) : (a + w) * S / n - a * S / n ≤ (b + w) * S / n - b * S / n + 1 := by
  have f : ∀ c, w * S / n ≤ (c + w) * S / n - c * S / n ∧ (c + w) * S / n - c * S / n ≤ w * S / n + 1 := fun c => by
    rw [Nat.add_mul]
    have h1 := Nat.div_add_mod (c * S) n
    have h2 := Nat.div_add_mod (w * S) n
    have h3 := Nat.div_add_mod (c * S + w * S) n
    have m1 := Nat.mod_lt (c * S) hn
    have m2 := Nat.mod_lt (w * S) hn
    have m3 := Nat.mod_lt (c * S + w * S) hn
    generalize c * S / n = x at *
    generalize w * S / n = y at *
    generalize (c * S + w * S) / n = z at *
    generalize c * S % n = r1 at *
    generalize w * S % n = r2 at *
    generalize (c * S + w * S) % n = r3 at *
    have lo : x + y ≤ z := by
      apply Decidable.byContradiction
      intro hh
      have : n * (z + 1) ≤ n * (x + y) := Nat.mul_le_mul (Nat.le_refl _) (by omega)
      rw [Nat.mul_add, Nat.mul_add] at this
      omega
    have hi : z ≤ x + y + 1 := by
      apply Decidable.byContradiction
      intro hh
      have : n * (x + y + 2) ≤ n * z := Nat.mul_le_mul (Nat.le_refl _) (by omega)
      rw [Nat.mul_add, Nat.mul_add] at this
      omega
    omega
  have := f a
  have := f b
  omega
end K57
end

section
set_option Elab.async false
set_option linter.all false
set_option autoImplicit false
set_option maxRecDepth 100000
namespace K57
/-- the spread gaps -/
def spr (S n : Nat) : List Nat := (List.range n).map fun a => (a + 1) * S / n - a * S / n
theorem spr_len (S n : Nat) : (spr S n).length = n := by unfold spr; rw [List.length_map, List.length_range]
theorem spr_get {S n a : Nat} (h : a < n) : (spr S n).getD a 0 = (a + 1) * S / n - a * S / n := by
  unfold spr
  rw [List.getD_eq_getElem?_getD, List.getElem?_map, List.getElem?_range h]
  rfl
theorem P_take (g : List Nat) : ∀ i, i ≤ g.length → P g i = (g.take i).sum
  | 0, _ => by simp [P]
  | i + 1, h => by
    have hi : i < g.length := h
    show P g i + G g i = _
    rw [P_take g i (by omega), List.take_succ, List.sum_append]
    have : g[i]? = some g[i] := by simp [hi]
    rw [this]
    unfold G
    rw [Nat.mod_eq_of_lt hi, List.getD_eq_getElem?_getD, this]
    simp
theorem P_sum (g : List Nat) : P g g.length = g.sum := by rw [P_take g _ (Nat.le_refl _), List.take_length]
theorem mod_shift {i n a : Nat} (hi : i < n) : (i + ((n - i) % n + a) % n) % n = a % n := by
  rw [Nat.add_mod_mod]
  by_cases e : i = 0
  · subst e
    rw [Nat.sub_zero, Nat.mod_self, Nat.zero_add, Nat.zero_add]
  · rw [Nat.mod_eq_of_lt (show n - i < n by omega), show i + (n - i + a) = a + n by omega, Nat.add_mod_right]
theorem even_turn {g : List Nat} (h0 : g ≠ []) (he : Even g) : ∃ sh, sh < g.length ∧ ∀ a, a < g.length → (spr g.sum g.length).getD ((sh + a) % g.length) 0 = g.getD a 0 := by
  have hn : 0 < g.length := List.length_pos_iff.mpr h0
  obtain ⟨i, h1, h2⟩ := even_spread h0 he
  rw [P_sum] at h2
  refine ⟨(g.length - i) % g.length, Nat.mod_lt _ hn, fun a ha => ?_⟩
  have hj := Nat.mod_lt ((g.length - i) % g.length + a) hn
  have m := mod_shift (a := a) h1
  rw [Nat.mod_eq_of_lt ha] at m
  generalize ((g.length - i) % g.length + a) % g.length = j at *
  rw [spr_get hj, ← h2 j (by omega), ← h2 (j + 1) (by omega)]
  have w1 := win_add g i j
  have w2 := win_add g i (j + 1)
  have st : P g (i + (j + 1)) = P g (i + j) + G g (i + j) := rfl
  have gg : G g (i + j) = g.getD a 0 := by unfold G; rw [m]
  omega
theorem Q_per (S n j : Nat) (hn : 0 < n) : (j + n) * S / n = j * S / n + S := by
  rw [Nat.add_mul, Nat.mul_comm n S, Nat.add_mul_div_right _ _ hn]
theorem Q_mod (S n : Nat) (hn : 0 < n) (j : Nat) : (j % n + 1) * S / n - j % n * S / n = (j + 1) * S / n - j * S / n := by
  have key : ∀ k i, (i + k * n + 1) * S / n - (i + k * n) * S / n = (i + 1) * S / n - i * S / n := fun k => by
    induction k with
    | zero =>
      intro i
      have z : i + 0 * n = i := by omega
      rw [z]
    | succ k ih =>
      intro i
      have z : (k + 1) * n = k * n + n := Nat.succ_mul k n
      rw [show i + (k + 1) * n + 1 = (i + k * n + 1) + n by omega, show i + (k + 1) * n = (i + k * n) + n by omega, Q_per _ _ _ hn, Q_per _ _ _ hn, Nat.add_sub_add_right]
      exact ih i
  have := key (j / n) (j % n)
  rw [show j % n + j / n * n = j by rw [Nat.mul_comm]; exact Nat.mod_add_div j n] at this
  exact this.symm
theorem Q_mono (S n a b : Nat) (h : a ≤ b) : a * S / n ≤ b * S / n := Nat.div_le_div_right (Nat.mul_le_mul h (Nat.le_refl _))
/-- turned spread gaps are even -/
theorem turn_even {g : List Nat} {S sh : Nat} (h0 : g ≠ []) (h : ∀ a, a < g.length → (spr S g.length).getD ((sh + a) % g.length) 0 = g.getD a 0) : Even g := by
  have hn : 0 < g.length := List.length_pos_iff.mpr h0
  have Gq : ∀ a, G g a = (sh + a + 1) * S / g.length - (sh + a) * S / g.length := fun a => by
    have hm := Nat.mod_lt a hn
    unfold G
    rw [← h _ hm, Nat.add_mod_mod, spr_get (Nat.mod_lt _ hn), Q_mod _ _ hn]
  have Pq : ∀ a, P g a + sh * S / g.length = (sh + a) * S / g.length := fun a => by
    induction a with
    | zero => simp [P]
    | succ a ih =>
      show P g a + G g a + _ = _
      rw [Gq a]
      have := Q_mono S g.length (sh + a) (sh + a + 1) (by omega)
      rw [show sh + (a + 1) = sh + a + 1 by omega]
      omega
  intro w _ _ a _ b _
  have f := floor_even g.length S (sh + a) (sh + b) w hn
  have p1 := Pq a
  have p2 := Pq b
  have p3 := Pq (a + w)
  have p4 := Pq (b + w)
  have w1 := win_add g a w
  have w2 := win_add g b w
  rw [show sh + (a + w) = sh + a + w by omega] at p3
  rw [show sh + (b + w) = sh + b + w by omega] at p4
  have m1 := Q_mono S g.length (sh + a) (sh + a + w) (by omega)
  have m2 := Q_mono S g.length (sh + b) (sh + b + w) (by omega)
  omega
end K57
end

section
set_option Elab.async false
set_option linter.all false
set_option autoImplicit false
set_option maxRecDepth 100000
namespace K57
open DL PySem L2 P_k57_whole_spread PyProof.Rows
inductive Kd where
  | k | p | sl | yo | k2tog | ssk | kfb | m1l | c2f | ktbl | p2tog | bo
  deriving DecidableEq
inductive Yn where
  | a | b | z
  deriving DecidableEq
def Kd.s : Kd → Str
  | .k => "k" | .p => "p" | .sl => "sl" | .yo => "yo" | .k2tog => "k2tog" | .ssk => "ssk" | .kfb => "kfb" | .m1l => "m1l" | .c2f => "c2f" | .ktbl => "ktbl" | .p2tog => "p2tog" | .bo => "bo"
def Kd.t : Kd → Nat
  | .k => 1 | .p => 1 | .sl => 1 | .yo => 0 | .k2tog => 2 | .ssk => 2 | .kfb => 1 | .m1l => 0 | .c2f => 2 | .ktbl => 1 | .p2tog => 2 | .bo => 1
def Yn.s : Yn → Str
  | .a => "a" | .b => "b" | .z => "z"
theorem Kd.inj {x y : Kd} : x.s = y.s → x = y := by
  cases x <;> cases y <;> first | (intro _; rfl) | (intro h; exact absurd h (by decide +kernel))
theorem Yn.inj {x y : Yn} : x.s = y.s → x = y := by
  cases x <;> cases y <;> first | (intro _; rfl) | (intro h; exact absurd h (by decide +kernel))
structure Cell where
  k : Kd
  y : Yn
  deriving DecidableEq
theorem kd_ok (x : Kd) : PyData.strOk x.s = true := by cases x <;> decide +kernel
theorem yn_ok (x : Yn) : PyData.strOk x.s = true := by cases x <;> decide +kernel
instance : PyE Cell where
  enc := fun c => .tup [.str c.k.s, .str c.y.s]
  py := fun c => .tuple [.str c.k.s, .str c.y.s]
  to := fun c => by simp [toPy, toPys]
  lay := fun c => by simp [PyData.canLay0, PyData.canLayAll0, kd_ok, yn_ok]
  dep := fun c => by simp [PyData.depth, PyData.depthAll]
  eqv := fun x y => by
    obtain ⟨i, a⟩ := x
    obtain ⟨j, b⟩ := y
    simp only [PyData.eqv, PyData.eqvAll, Bool.and_eq_true, beq_iff_eq, Cell.mk.injEq, Bool.true_and, and_true]
    exact ⟨fun ⟨h1, h2⟩ => ⟨Kd.inj h1, Yn.inj h2⟩, fun ⟨h1, h2⟩ => by rw [h1, h2]; exact ⟨rfl, rfl⟩⟩
abbrev Word := List Cell
theorem dep_cell (c : Cell) : (PyE.py c : PyData).depth ≤ 1 := by
  show (PyData.tuple [.str c.k.s, .str c.y.s]).depth ≤ 1
  simp [PyData.depth, PyData.depthAll]
theorem dep_all {α : Type} [PyE α] {k : Nat} (h : ∀ x : α, (PyE.py x : PyData).depth ≤ k) : ∀ xs : List α, PyData.depthAll (xs.map PyE.py) ≤ k
  | [] => by simp [PyData.depthAll]
  | x :: xs => by
    rw [List.map_cons]
    unfold PyData.depthAll
    have := h x
    have := dep_all h xs
    omega
instance : PyE Word where
  enc := encT
  py := fun w => .tuple (w.map PyE.py)
  to := fun w => by
    unfold encT toPy
    rw [PyE.toAll]
  lay := fun w => by
    unfold PyData.canLay0
    exact PyE.layAll w
  dep := fun w => by
    unfold PyData.depth
    have := dep_all dep_cell w
    omega
  eqv := fun x y => by
    unfold PyData.eqv
    exact PyE.eqvAll x y
theorem dep_word (w : Word) : (PyE.py w : PyData).depth ≤ 2 := by
  show (PyData.tuple (w.map PyE.py)).depth ≤ 2
  unfold PyData.depth
  have := dep_all dep_cell w
  omega
/-- a row: before, group, after -/
abbrev Row := List Word
instance : PyE Row where
  enc := encT
  py := fun w => .tuple (w.map PyE.py)
  to := fun w => by
    unfold encT toPy
    rw [PyE.toAll]
  lay := fun w => by
    unfold PyData.canLay0
    exact PyE.layAll w
  dep := fun w => by
    unfold PyData.depth
    have := dep_all dep_word w
    omega
  eqv := fun x y => by
    unfold PyData.eqv
    exact PyE.eqvAll x y
def rw3 (b g a : Word) : Row := [b, g, a]
theorem enc_rw3 (b g a : Word) : PyE.enc (rw3 b g a) = D.tup [encT b, encT g, encT a] := rfl
end K57
end

section
set_option Elab.async false
set_option linter.all false
set_option autoImplicit false
set_option maxRecDepth 100000
namespace K57
open DL PySem L2 P_k57_whole_spread PyProof.Rows
/-! ### lists of plain results -/
theorem seq_go {g h : SX} {ρ ρ1 : DL.Env} {n n1 : Int} {r : Option (Except Xc Out × Int)} (a : g ρ n = some (.ok (.nx ρ1), n1)) (b : h ρ1 n1 = r) : sSeq g h ρ n = r := by
  rw [sSeq_ap, bind_ap, a, bindR_ok, seqK_nx, b]
theorem comp_map {α : Type} (h : α → D) (b : D → M (Option D)) (g : α → Option D) (n : Int) : ∀ w : List α, (∀ x ∈ w, b (h x) n = some (.ok (g x), n)) → compD b (w.map h) n = some (.ok (w.filterMap g), n)
  | [], _ => rfl
  | x :: w, k => by
    have h1 := k x List.mem_cons_self
    have h2 := comp_map h b g n w fun y hy => k y (List.mem_cons_of_mem _ hy)
    rw [List.map_cons, compD_cons, bind_ap, h1, bindR_ok, bind_ap, h2, bindR_ok, pure_ap]
    cases e : g x with
    | none => rw [List.filterMap_cons_none e]; rfl
    | some y => rw [List.filterMap_cons_some e]; rfl
theorem comp_all {α : Type} (h : α → D) (b : D → M (Option D)) (g : α → D) (n : Int) (w : List α) (k : ∀ x ∈ w, b (h x) n = some (.ok (some (g x)), n)) : compD b (w.map h) n = some (.ok (w.map g), n) := by
  rw [comp_map h b (fun x => some (g x)) n w k, List.filterMap_eq_map']
theorem comp_filter {α : Type} (h : α → D) (b : D → M (Option D)) (p : α → Bool) (n : Int) (w : List α) (k : ∀ x ∈ w, b (h x) n = some (.ok (if p x then some (h x) else none), n)) : compD b (w.map h) n = some (.ok ((w.filter p).map h), n) := by
  rw [comp_map h b (fun x => if p x then some (h x) else none) n w k]
  congr 3
  clear k
  induction w with
  | nil => rfl
  | cons x w ih =>
    rw [List.filterMap_cons, List.filter_cons]
    cases p x <;> simp [ih]
theorem bls_map {α : Type} (g : α → Bool) : ∀ w : List α, dBls (w.map fun x => .bl (g x)) = some (w.map g)
  | [] => rfl
  | x :: w => by
    rw [List.map_cons, List.map_cons]
    unfold dBls
    rw [bls_map g w]
theorem all_map {α : Type} (g : α → Bool) (w : List α) : dAll [.lst (w.map fun x => .bl (g x))] = some (.bl (w.all g)) := by
  unfold dAll
  simp only [bls_map]
  simp [List.all_map]
theorem ints_nat : ∀ ns : List Nat, dInts (ns.map fun k : Nat => D.int k) = some (ns.map fun k : Nat => (k : Int))
  | [] => rfl
  | k :: r => by
    rw [List.map_cons, List.map_cons]
    show (match dInts (r.map fun k : Nat => D.int k) with | some ns => some ((k : Int) :: ns) | none => none) = _
    rw [ints_nat r]
theorem sum_cast : ∀ ns : List Nat, (ns.map fun k : Nat => (k : Int)).sum = (ns.sum : Nat)
  | [] => rfl
  | k :: r => by
    rw [List.map_cons, List.sum_cons, List.sum_cons, sum_cast r]
    omega
theorem sum_nat (ns : List Nat) : dSum [.lst (ns.map fun k : Nat => D.int k)] = some (.int (ns.sum : Nat)) := by
  unfold dSum
  simp only [ints_nat]
  rw [← sum_cast]
/-! ### cells, words -/
theorem kind_ok (k : Kd) (n : Int) : f_is_kind [.str k.s] n = some (.ok (.bl true), n) := by cases k <;> kernel_rfl
theorem yarn_ok (y : Yn) (n : Int) : f_is_yarn [.str y.s] n = some (.ok (.bl true), n) := by cases y <;> kernel_rfl
theorem cell_ok (c : Cell) (n : Int) : f_is_cell [PyE.enc c] n = some (.ok (.bl true), n) := by
  have h1 := kind_ok c.k n
  have h2 := yarn_ok c.y n
  have e : (PyE.enc c : D) = .tup [.str c.k.s, .str c.y.s] := rfl
  rw [e]
  have i1 : dIsi "tuple" (.tup [.str c.k.s, .str c.y.s]) = some (.bl true) := rfl
  have x0 : dIx (.tup [.str c.k.s, .str c.y.s]) (.int 0) = some (.str c.k.s) := rfl
  have x1 : dIx (.tup [.str c.k.s, .str c.y.s]) (.int 1) = some (.str c.y.s) := rfl
  have l : dLen [.tup [.str c.k.s, .str c.y.s]] = some (.int 2) := rfl
  generalize (D.tup [.str c.k.s, .str c.y.s]) = Z at *
  simp only [f_is_cell, g_is_cell]
  simp [h1, h2, i1, x0, x1, l]
theorem z_small {α : Type} (xs : List α) (f : α → D) (h : xs.length ≤ 16777216) : (xs.map f).length ≤ 16777216 := by rw [List.length_map]; exact h
theorem word_is (w : Word) (hl : w.length ≤ 1000) (n : Int) : f_is_word [encT w] n = some (.ok (.bl true), n) := by
  have c := comp_all (PyE.enc : Cell → D) (compB [1] (gV 1) tYesD (eCall (f_is_cell) (eCons (eVar 1) eNil)) [.val (encT w), .no]) (fun _ => .bl true) n w fun x _ => by
    have h := cell_ok x n
    generalize (PyE.enc x : D) = Z at *
    simp [h]
  have a := all_map (fun _ : Cell => true) w
  have at' : w.all (fun _ => true) = true := by rw [List.all_eq_true]; exact fun _ _ => rfl
  rw [at'] at a
  have z := z_small w (fun _ => D.bl true) (by omega)
  have i1 : dIsi "tuple" (encT w) = some (.bl true) := rfl
  have it : dItems (encT w) = some (w.map PyE.enc) := rfl
  generalize (w.map fun _ => D.bl true) = B at *
  generalize (w.map (PyE.enc : Cell → D)) = A at *
  generalize encT w = Z at *
  simp only [f_is_word, g_is_word]
  simp [i1, it, c, mkLst_of z, a]
def T (w : Word) : Nat := (w.map fun c => c.k.t).sum
theorem tk_ok (k : Kd) : (dIxK tb_KINDS (.str k.s)).bind (fun x => dIx x (.int 0)) = some (.int k.t) := by cases k <;> kernel_rfl
theorem takes_ok (w : Word) (hl : w.length ≤ 1000) (n : Int) : f_takes [encT w] n = some (.ok (.int (T w)), n) := by
  have c := comp_all (PyE.enc : Cell → D) (compB [1, 2] (gT (gsC (gV 1) (gsC (gV 2) gsN))) tYesD (e2 dIx (e1 (dIxK tb_KINDS) (eVar 1)) (eC (.int 0))) [.val (encT w), .no, .no]) (fun c => .int (c.k.t : Nat)) n w fun x _ => by
    have h := tk_ok x.k
    have e : (PyE.enc x : D) = .tup [.str x.k.s, .str x.y.s] := rfl
    rw [e]
    cases hk : dIxK tb_KINDS (.str x.k.s) with
    | none => rw [hk] at h; cases h
    | some d =>
      rw [hk, Option.bind_some] at h
      simp [hk, h]
  have a := sum_nat (w.map fun c => c.k.t)
  rw [List.map_map] at a
  have z := z_small w (fun c : Cell => D.int (c.k.t : Nat)) (by omega)
  have it : dItems (encT w) = some (w.map PyE.enc) := rfl
  have a : dSum [.lst (w.map fun c : Cell => D.int (c.k.t : Nat))] = some (.int (T w)) := a
  generalize (w.map fun c : Cell => D.int (c.k.t : Nat)) = B at *
  generalize (w.map (PyE.enc : Cell → D)) = A at *
  generalize encT w = Z at *
  simp only [f_takes, g_takes]
  simp [it, c, mkLst_of z, a]
/-! ### rows -/
def rD (b g a : Word) : D := .tup [encT b, encT g, encT a]
theorem rD_enc (b g a : Word) : rD b g a = PyE.enc (rw3 b g a) := rfl
def rowB (b g a : Word) : Bool := decide (b.length ≤ 60) && decide (g.length ≤ 30) && decide (a.length ≤ 60) && (if g = [] then decide (a = []) else decide (0 < T g))
theorem is_row_ok (b g a : Word) (hb : b.length ≤ 1000) (hg : g.length ≤ 1000) (ha : a.length ≤ 1000) (n : Int) : f_is_row [rD b g a] n = some (.ok (.bl (rowB b g a)), n) := by
  have h1 := word_is b hb n
  have h2 := word_is g hg n
  have h3 := word_is a ha n
  have t := takes_ok g hg n
  have l1 := dLen_T b
  have l2 := dLen_T g
  have l3 := dLen_T a
  have n1 := dNe_T g ([] : Word)
  have n2 := dEq_T a ([] : Word)
  have e0 : encT ([] : Word) = .tup [] := rfl
  rw [e0] at n1 n2
  unfold rowB rD
  generalize encT b = B at *
  generalize encT g = G at *
  generalize encT a = A at *
  have i1 : dIsi "tuple" (.tup [B, G, A]) = some (.bl true) := rfl
  have l : dLen [.tup [B, G, A]] = some (.int 3) := rfl
  have it : dItems (.tup [B, G, A]) = some [B, G, A] := rfl
  have al : dAll [.lst [.bl true, .bl true, .bl true]] = some (.bl true) := rfl
  simp only [f_is_row, g_is_row]
  by_cases c1 : (60 : Int) < b.length
  · have c1' : ¬ b.length ≤ 60 := by omega
    simp [i1, l, it, al, h1, h2, h3, compD_cons, compD_nil, l1, c1, c1']
  · have c1' : b.length ≤ 60 := by omega
    by_cases c2 : (30 : Int) < g.length
    · have c2' : ¬ g.length ≤ 30 := by omega
      simp [i1, l, it, al, h1, h2, h3, compD_cons, compD_nil, l1, l2, c1, c1', c2, c2']
    · have c2' : g.length ≤ 30 := by omega
      by_cases c3 : (60 : Int) < a.length
      · have c3' : ¬ a.length ≤ 60 := by omega
        simp [i1, l, it, al, h1, h2, h3, compD_cons, compD_nil, l1, l2, l3, c1, c1', c2, c2', c3, c3']
      · have c3' : a.length ≤ 60 := by omega
        by_cases hg0 : g = []
        · simp [i1, l, it, al, h1, h2, h3, compD_cons, compD_nil, l1, l2, l3, c1, c1', c2, c2', c3, c3', n1, n2, hg0]
        · simp [i1, l, it, al, h1, h2, h3, compD_cons, compD_nil, l1, l2, l3, c1, c1', c2, c2', c3, c3', n1, n2, hg0, t]
end K57
end

section
set_option Elab.async false
set_option linter.all false
set_option autoImplicit false
set_option maxRecDepth 100000
namespace K57
open DL PySem L2 P_k57_whole_spread PyProof.Rows
theorem ixT' {α : Type} [PyE α] {xs : List α} {x : α} {j : Nat} (h : xs[j]? = some x) : dIxA (encT xs) (.int (j : Int)) = some (PyE.enc x) := by
  show atI (xs.map PyE.enc) (j : Int) = _
  exact atI_nat (by rw [List.getElem?_map, h]; rfl)
theorem uApp_ok (d : D) (ds : List D) (h : ds.length < 16777216) : uApp d (.lst ds) = some (.lst (ds ++ [d])) := by
  show (if ds.length < sizeLine then some (D.lst (ds ++ [d])) else none) = _
  rw [if_pos (show ds.length < sizeLine from h)]
theorem ix0 {α : Type} [PyE α] (x : α) (xs : List α) : dIx (encT (x :: xs)) (.int 0) = some (PyE.enc x) := by
  show atI ((x :: xs).map PyE.enc) ((0 : Nat) : Int) = _
  exact atI_nat rfl
theorem cut1 {α : Type} [PyE α] (xs : List α) : dCut (encT xs) (some 1) none = some (encT (xs.drop 1)) := cut_from xs 1
theorem cut1' {α : Type} [PyE α] (xs : List α) : dCut (encT xs) none (some 1) = some (encT (xs.take 1)) := cut_to xs 1
theorem whileD_step {t : TX} {b : SX} {m : Nat} {ρ ρ1 : DL.Env} {n n1 : Int} (e1 : t ρ n = some (.ok true, n)) (e2 : b ρ n = some (.ok (.nx ρ1), n1)) : whileD t b (m + 1) ρ n = whileD t b m ρ1 n1 := by
  rw [whileD_s, bind_ap, e1, bindR_ok, selB_true, bind_ap, e2, bindR_ok, turnK_nx]
theorem whileD_stop {t : TX} {b : SX} {m : Nat} {ρ : DL.Env} {n : Int} (e1 : t ρ n = some (.ok false, n)) : whileD t b (m + 1) ρ n = some (.ok (.nx ρ), n) := by
  rw [whileD_s, bind_ap, e1, bindR_ok, selB_false, pure_ap]
theorem T_app (a b : Word) : K57.T (a ++ b) = K57.T a + K57.T b := by unfold K57.T; rw [List.map_append, List.sum_append]
theorem cut_mid {α : Type} [PyE α] (xs : List α) (i j : Nat) : dCut (encT xs) (some (i : Int)) (some (j : Int)) = some (encT ((xs.take j).drop i)) := by
  rw [cut_map, HT.sIx_nat, HT.sIx_nat]
  congr 2
  rw [List.drop_take]
  apply List.ext_getElem?
  intro t
  rw [List.getElem?_take, List.getElem?_take, List.getElem?_drop, List.getElem?_drop]
  by_cases h : i ≤ xs.length
  · rw [Nat.min_eq_left h]
    by_cases h2 : j ≤ xs.length
    · rw [Nat.min_eq_left h2]
    · rw [Nat.min_eq_right (by omega)]
      by_cases h3 : i + t < xs.length
      · rw [if_pos (by omega), if_pos (by omega)]
      · rw [List.getElem?_eq_none (by omega)]; split <;> split <;> rfl
  · rw [Nat.min_eq_right (Nat.le_of_not_le h), List.getElem?_eq_none (by omega), List.getElem?_eq_none (by omega)]; split <;> split <;> rfl
theorem rng_nat (k : Nat) : rngD 0 (k : Int) = (List.range k).map fun i : Nat => D.int i := by
  unfold rngD
  simp
theorem rng_nat2 (a b : Nat) : rngD (a : Int) (b : Int) = (List.range (b - a)).map fun i : Nat => D.int ((a + i : Nat) : Int) := by
  unfold rngD
  have : ((b : Int) - (a : Int)).toNat = b - a := by omega
  rw [this]
  apply List.map_congr_left
  intro i _
  congr 1
theorem rng1 (k : Nat) (h : k ≤ 1000000) : dRng1 [.int (k : Int)] = some ((List.range k).map fun i : Nat => D.int i) := by
  rw [dRng1_ok (by omega) (by omega), rng_nat]
theorem pw_le (g : Word) (t : Nat) (ht : t ≤ 3) (hg : g.length ≤ 1000) : (pw g t).length ≤ 3000 := by
  rw [pw_length]
  exact Nat.mul_le_mul ht hg
theorem cutL {α : Type} [PyE α] (xs : List α) (lo hi : Option Int) : dCut (encL xs) lo hi = some (encL ((xs.drop (HT.sIx xs.length 0 lo)).take (HT.sIx xs.length xs.length hi - HT.sIx xs.length 0 lo))) := by
  unfold dCut encL DL.cutD
  simp only [List.length_map, List.map_take, List.map_drop]
theorem cutL_from {α : Type} [PyE α] (xs : List α) (k : Nat) : dCut (encL xs) (some (k : Int)) none = some (encL (xs.drop k)) := by
  rw [cutL, HT.sIx_nat, HT.sIx_none]
  congr 2
  by_cases h : k ≤ xs.length
  · rw [Nat.min_eq_left h, List.take_of_length_le (by simp)]
  · rw [Nat.min_eq_right (by omega), List.drop_eq_nil_of_le (by omega), List.drop_eq_nil_of_le (by omega)]; simp

end K57
end

section
set_option Elab.async false
set_option linter.all false
set_option autoImplicit false
set_option maxRecDepth 100000
namespace K57
open DL PySem L2 P_k57_whole_spread PyProof.Rows
theorem atI_in {α : Type} (xs : List α) (j : Int) (h0 : 0 ≤ j) (h1 : j < xs.length) : ∃ x, atI xs j = some x := by
  obtain ⟨k, rfl⟩ : ∃ k : Nat, j = (k : Int) := ⟨j.toNat, by omega⟩
  have : k < xs.length := by omega
  exact ⟨xs[k], atI_nat (by simp [this])⟩
theorem mul_r (i j : Int) (h : -1000000 ≤ j) (h2 : j ≤ 1000000) : dMul (.int i) (.int j) = some (.int (i * j)) := dMul_int (.inr (small64_of h h2))
theorem mul_l (i j : Int) (h : -1000000 ≤ i) (h2 : i ≤ 1000000) : dMul (.int i) (.int j) = some (.int (i * j)) := dMul_int (.inl (small64_of h h2))
theorem number_ok (W : Wd) (i n : Int) : ∃ v : Int, f__law_number W [.scr, .int i] n = some (.ok (.int v), n) := by
  have m1 := fun x => mul_r x 48271 (by omega) (by omega)
  have m2 := fun x => mul_r x 69621 (by omega) (by omega)
  have m3 := fun x => mul_r x 16807 (by omega) (by omega)
  have m4 := fun x => mul_l 977 x (by omega) (by omega)
  have m5 := fun x => mul_l 31 x (by omega) (by omega)
  have d1 := fun x => dMod_int (i := x) (j := 2147483647) (by omega)
  have d2 := fun x => dMod_int (i := x) (j := 2147483629) (by omega)
  have d3 := fun x => dMod_int (i := x) (j := 2147483587) (by omega)
  have nil : dScrNil W .scr (.lst []) = some (.bl W.ns.isEmpty) := rfl
  have len : dLenS W [.scr] = some (.int W.ns.length) := rfl
  have int : ∀ x, dInt [.int x] = some (.int x) := fun _ => rfl
  cases he : W.ns.isEmpty with
  | true =>
    rw [he] at nil
    simp only [f__law_number, g__law_number]
    simp [nil, m1, d1, int]
  | false =>
    rw [he] at nil
    have hl : 0 < W.ns.length := by
      cases hn : W.ns with
      | nil => rw [hn] at he; cases he
      | cons a b => simp
    have hl' : (0 : Int) < (W.ns.length : Int) := by omega
    have d0 := fun x => dMod_int (i := x) (j := (W.ns.length : Int)) hl'
    obtain ⟨x, hx⟩ := atI_in W.ns (i % (W.ns.length : Int)) (Int.emod_nonneg _ (by omega)) (Int.emod_lt_of_pos _ hl')
    have ix : dIxS W .scr (.int (i % (W.ns.length : Int))) = some (.int x) := by
      show (atI W.ns _).map D.int = _
      rw [hx]; rfl
    obtain ⟨p60, e60⟩ : ∃ p60 : Int, dPow (.int 10) (.int 60) = some (.int p60) := ⟨_, rfl⟩
    have e18 : dPow (.int 10) (.int 18) = some (.int 1000000000000000000) := rfl
    have d18 := fun x => dMod_int (i := x) (j := 1000000000000000000) (by omega)
    have ab : dAbs [.int x] = some (.int (if x < 0 then -x else x)) := rfl
    obtain ⟨y, hy⟩ : ∃ y, y = (if x < 0 then -x else x) := ⟨_, rfl⟩
    rw [← hy] at ab
    simp only [f__law_number, g__law_number]
    by_cases hb : p60 ≤ y
    · simp [nil, len, d0, ix, ab, e60, hb, e18, d18, m4, m1, m5, d1, m2, d2, m3, d3, int]
    · simp [nil, len, d0, ix, ab, e60, hb, m4, m1, m5, d1, m2, d2, m3, d3, int]
theorem take_ok (W : Wd) (m n : Int) (h : 0 < m) : ∃ v : Int, 0 ≤ v ∧ v < m ∧ f__law_take W [.drw, .int m] n = some (.ok (.int v), n + 1) := by
  obtain ⟨v, hv⟩ := number_ok W (n + 1) (n + 1)
  refine ⟨v % m, Int.emod_nonneg _ (by omega), Int.emod_lt_of_pos _ h, ?_⟩
  have int : ∀ x, dInt [.int x] = some (.int x) := fun _ => rfl
  have s1 : ∀ n, sDrw (eVar 0) [.val .drw, .val (.int m)] n = some (.ok (.nx [.val .drw, .val (.int m)]), n + 1) := fun n => rfl
  have s2 : ∀ n, eDrw0 (eVar 0) [.val .drw, .val (.int m)] n = some (.ok .scr, n) := fun n => rfl
  have s3 : ∀ n, eDrw1 (eVar 0) [.val .drw, .val (.int m)] n = some (.ok (.int n), n) := fun n => rfl
  simp only [f__law_take, g__law_take]
  simp [s1, s2, s3, int, hv, dMod_int h]

theorem ixA_lst (ds : List D) (i : Int) : dIxA (.lst ds) (.int i) = atI ds i := rfl
theorem pick_ok (W : Wd) (ds : List D) (h : ds ≠ []) (n : Int) : ∃ d ∈ ds, f__law_pick W [.drw, .lst ds] n = some (.ok d, n + 1) := by
  have hl : 0 < ds.length := List.length_pos_iff.mpr h
  obtain ⟨v, h0, h1, hv⟩ := take_ok W ds.length n (by omega)
  obtain ⟨k, rfl⟩ : ∃ k : Nat, v = (k : Int) := ⟨v.toNat, by omega⟩
  have hk : k < ds.length := by omega
  have ix : dIxA (.lst ds) (.int (k : Int)) = some ds[k] := (ixA_lst ds k).trans (atI_nat (by simp [hk]))
  refine ⟨ds[k], List.getElem_mem hk, ?_⟩
  simp only [f__law_pick, g__law_pick]
  simp [hv, ix]


/-! ### drawn words and rows -/
def KL : List D := [.str "k", .str "p", .str "k", .str "p", .str "sl", .str "yo", .str "k2tog", .str "ssk", .str "kfb", .str "m1l", .str "c2f", .str "ktbl", .str "p2tog", .str "bo"]
theorem kl_mem (d : D) (h : d ∈ KL) : ∃ k : Kd, d = .str k.s := by
  simp only [KL, List.mem_cons, List.not_mem_nil, or_false] at h
  rcases h with h | h | h | h | h | h | h | h | h | h | h | h | h | h
  · exact ⟨.k, h⟩
  · exact ⟨.p, h⟩
  · exact ⟨.k, h⟩
  · exact ⟨.p, h⟩
  · exact ⟨.sl, h⟩
  · exact ⟨.yo, h⟩
  · exact ⟨.k2tog, h⟩
  · exact ⟨.ssk, h⟩
  · exact ⟨.kfb, h⟩
  · exact ⟨.m1l, h⟩
  · exact ⟨.c2f, h⟩
  · exact ⟨.ktbl, h⟩
  · exact ⟨.p2tog, h⟩
  · exact ⟨.bo, h⟩
/-- a list of yarns -/
def Ys (ys : List D) : Prop := ys ≠ [] ∧ ∀ d ∈ ys, ∃ y : Yn, d = .str y.s
theorem ys_a : Ys [.str "a"] := ⟨by simp, fun d h => ⟨.a, List.mem_singleton.mp h⟩⟩
theorem ys_ab : Ys [.str "a", .str "b"] := ⟨by simp, fun d h => by
  simp only [List.mem_cons, List.not_mem_nil, or_false] at h
  rcases h with h | h
  · exact ⟨.a, h⟩
  · exact ⟨.b, h⟩⟩
theorem lcell_ok (W : Wd) (ys : List D) (hy : Ys ys) (n : Int) : ∃ c : Cell, ∃ n', f__law_cell W [.drw, .lst ys] n = some (.ok (PyE.enc c), n') := by
  obtain ⟨d1, m1, e1⟩ := pick_ok W KL (by simp [KL]) n
  obtain ⟨d2, m2, e2⟩ := pick_ok W ys hy.1 (n + 1)
  obtain ⟨k, rfl⟩ := kl_mem d1 m1
  obtain ⟨y, rfl⟩ := hy.2 d2 m2
  refine ⟨⟨k, y⟩, n + 1 + 1, ?_⟩
  have e : (PyE.enc (⟨k, y⟩ : Cell) : D) = .tup [.str k.s, .str y.s] := rfl
  rw [e]
  unfold KL at e1
  simp only [f__law_cell, g__law_cell]
  simp [e1, e2]
theorem lword_ok (W : Wd) (m : Nat) (hm : m ≤ 100) (ys : List D) (hy : Ys ys) (n : Int) : ∃ w : Word, ∃ n', w.length ≤ m ∧ f__law_word W [.drw, .int m, .lst ys] n = some (.ok (encT w), n') := by
  obtain ⟨v, v0, v1, e1⟩ := take_ok W (m + 1) n (by omega)
  obtain ⟨j, rfl⟩ : ∃ j : Nat, v = (j : Int) := ⟨v.toNat, by omega⟩
  obtain ⟨xs, n', c, l⟩ := compD_ex (α := Cell) (compB [3] (gV 3) tYesD (eCall (f__law_cell W) (eCons (eVar 0) (eCons (eVar 2) eNil))) [.val .drw, .val (.int m), .val (.lst ys), .no]) ((List.range j).map fun i : Nat => D.int i) (n + 1) fun d _ n => by
    obtain ⟨c, n', e⟩ := lcell_ok W ys hy n
    refine ⟨c, n', ?_⟩
    generalize (PyE.enc c : D) = Z at *
    simp [e]
  rw [List.length_map, List.length_range] at l
  refine ⟨xs, n', by omega, ?_⟩
  have r := rng1 j (by omega)
  have z : (xs.map (PyE.enc : Cell → D)).length ≤ 16777216 := by rw [List.length_map]; omega
  have ml := mkLst_of z
  have tp : dTupOf [.lst (xs.map (PyE.enc : Cell → D))] = some (encT xs) := rfl
  generalize encT xs = Z at *
  generalize (xs.map (PyE.enc : Cell → D)) = B at *
  generalize ((List.range j).map fun i : Nat => D.int i) = A at *
  simp only [f__law_word, g__law_word]
  simp [e1, r, c, ml, tp]
end K57
end

section
set_option Elab.async false
set_option linter.all false
set_option autoImplicit false
set_option maxRecDepth 100000
namespace K57
open DL PySem L2 P_k57_whole_spread PyProof.Rows
def KT : D := .dic (tb_KINDS.map fun q => .inr q.1) (tb_KINDS.map (·.2))
def KK0 : SX := (sOwn 0 (.dic [] []))
def KK1 : SX := (sAsg (gV 1) (eC (.str "k 1 1 p k, p 1 1 k p, ktbl 1 1 ptbl ktbl, ptbl 1 1 ktbl ptbl, sl 1 1 slf sl, slf 1 1 sl slf, yo 0 1 yo yo, co 0 1 co co, bo 1 0 bo bo, kfb 1 2 pfb kfb, pfb 1 2 kfb pfb, m1l 0 1 m1lp m1r, m1r 0 1 m1rp m1l, m1lp 0 1 m1l m1rp, m1rp 0 1 m1r m1lp, k2tog 2 1 p2tog ssk, ssk 2 1 ssp k2tog, p2tog 2 1 k2tog ssp, ssp 2 1 ssk p2tog, cdd 3 1 cddp cdd, cddp 3 1 cdd cddp, c2f 2 2 c2fw c2b, c2b 2 2 c2bw c2f, c2fw 2 2 c2f c2bw, c2bw 2 2 c2b c2fw, c4f 4 4 c4fw c4b, c4b 4 4 c4bw c4f, c4fw 4 4 c4f c4bw, c4bw 4 4 c4b c4fw")))
def KK2b0 : SX := (sAsg (gV 3) (e2 dSplit (eVar 2) (eC (.str " "))))
def KK2b1 : SX := (sPut 0 (e2 dIx (eVar 3) (eC (.int 0))) (eTup (eCons (eB dIntA (eCons (e2 dIx (eVar 3) (eC (.int 1))) eNil)) (eCons (eB dIntA (eCons (e2 dIx (eVar 3) (eC (.int 2))) eNil)) (eCons (e2 dIx (eVar 3) (eC (.int 3))) (eCons (e2 dIx (eVar 3) (eC (.int 4))) eNil))))))
def KK2b : SX := (sSeq (KK2b0) (KK2b1))
def KK2 : SX := (sFor (gV 2) (iOf (e2 dSplit (eVar 1) (eC (.str ", ")))) KK2b)
def KK3 : SX := (sFrz 0)
def KK4 : SX := (sRet (eVar 0))
def KK : SX := (sSeq (KK0) (sSeq (KK1) (sSeq (KK2) (sSeq (KK3) (KK4)))))
theorem KK_eq : g__law_kinds = KK := rfl

def rt : List Str := ["k 1 1 p k", "p 1 1 k p", "ktbl 1 1 ptbl ktbl", "ptbl 1 1 ktbl ptbl", "sl 1 1 slf sl", "slf 1 1 sl slf", "yo 0 1 yo yo", "co 0 1 co co", "bo 1 0 bo bo", "kfb 1 2 pfb kfb", "pfb 1 2 kfb pfb", "m1l 0 1 m1lp m1r", "m1r 0 1 m1rp m1l", "m1lp 0 1 m1l m1rp", "m1rp 0 1 m1r m1lp", "k2tog 2 1 p2tog ssk", "ssk 2 1 ssp k2tog", "p2tog 2 1 k2tog ssp", "ssp 2 1 ssk p2tog", "cdd 3 1 cddp cdd", "cddp 3 1 cdd cddp", "c2f 2 2 c2fw c2b", "c2b 2 2 c2bw c2f", "c2fw 2 2 c2f c2bw", "c2bw 2 2 c2b c2fw", "c4f 4 4 c4fw c4b", "c4b 4 4 c4bw c4f", "c4fw 4 4 c4f c4bw", "c4bw 4 4 c4b c4fw"]
def KTx : D := .str ("k 1 1 p k, p 1 1 k p, ktbl 1 1 ptbl ktbl, ptbl 1 1 ktbl ptbl, sl 1 1 slf sl, slf 1 1 sl slf, yo 0 1 yo yo, co 0 1 co co, bo 1 0 bo bo, kfb 1 2 pfb kfb, pfb 1 2 kfb pfb, m1l 0 1 m1lp m1r, m1r 0 1 m1rp m1l, m1lp 0 1 m1l m1rp, m1rp 0 1 m1r m1lp, k2tog 2 1 p2tog ssk, ssk 2 1 ssp k2tog, p2tog 2 1 k2tog ssp, ssp 2 1 ssk p2tog, cdd 3 1 cddp cdd, cddp 3 1 cdd cddp, c2f 2 2 c2fw c2b, c2b 2 2 c2bw c2f, c2fw 2 2 c2f c2bw, c2bw 2 2 c2b c2fw, c4f 4 4 c4fw c4b, c4b 4 4 c4bw c4f, c4fw 4 4 c4f c4bw, c4bw 4 4 c4b c4fw" : Str)
def sp5 (i : Nat) : Sl := match i with
  | 1 => .val (.lst [.str "k", .str "1", .str "1", .str "p", .str "k"])
  | 2 => .val (.lst [.str "p", .str "1", .str "1", .str "k", .str "p"])
  | 3 => .val (.lst [.str "ktbl", .str "1", .str "1", .str "ptbl", .str "ktbl"])
  | 4 => .val (.lst [.str "ptbl", .str "1", .str "1", .str "ktbl", .str "ptbl"])
  | 5 => .val (.lst [.str "sl", .str "1", .str "1", .str "slf", .str "sl"])
  | 6 => .val (.lst [.str "slf", .str "1", .str "1", .str "sl", .str "slf"])
  | 7 => .val (.lst [.str "yo", .str "0", .str "1", .str "yo", .str "yo"])
  | 8 => .val (.lst [.str "co", .str "0", .str "1", .str "co", .str "co"])
  | 9 => .val (.lst [.str "bo", .str "1", .str "0", .str "bo", .str "bo"])
  | 10 => .val (.lst [.str "kfb", .str "1", .str "2", .str "pfb", .str "kfb"])
  | 11 => .val (.lst [.str "pfb", .str "1", .str "2", .str "kfb", .str "pfb"])
  | 12 => .val (.lst [.str "m1l", .str "0", .str "1", .str "m1lp", .str "m1r"])
  | 13 => .val (.lst [.str "m1r", .str "0", .str "1", .str "m1rp", .str "m1l"])
  | 14 => .val (.lst [.str "m1lp", .str "0", .str "1", .str "m1l", .str "m1rp"])
  | 15 => .val (.lst [.str "m1rp", .str "0", .str "1", .str "m1r", .str "m1lp"])
  | 16 => .val (.lst [.str "k2tog", .str "2", .str "1", .str "p2tog", .str "ssk"])
  | 17 => .val (.lst [.str "ssk", .str "2", .str "1", .str "ssp", .str "k2tog"])
  | 18 => .val (.lst [.str "p2tog", .str "2", .str "1", .str "k2tog", .str "ssp"])
  | 19 => .val (.lst [.str "ssp", .str "2", .str "1", .str "ssk", .str "p2tog"])
  | 20 => .val (.lst [.str "cdd", .str "3", .str "1", .str "cddp", .str "cdd"])
  | 21 => .val (.lst [.str "cddp", .str "3", .str "1", .str "cdd", .str "cddp"])
  | 22 => .val (.lst [.str "c2f", .str "2", .str "2", .str "c2fw", .str "c2b"])
  | 23 => .val (.lst [.str "c2b", .str "2", .str "2", .str "c2bw", .str "c2f"])
  | 24 => .val (.lst [.str "c2fw", .str "2", .str "2", .str "c2f", .str "c2bw"])
  | 25 => .val (.lst [.str "c2bw", .str "2", .str "2", .str "c2b", .str "c2fw"])
  | 26 => .val (.lst [.str "c4f", .str "4", .str "4", .str "c4fw", .str "c4b"])
  | 27 => .val (.lst [.str "c4b", .str "4", .str "4", .str "c4bw", .str "c4f"])
  | 28 => .val (.lst [.str "c4fw", .str "4", .str "4", .str "c4f", .str "c4bw"])
  | 29 => .val (.lst [.str "c4bw", .str "4", .str "4", .str "c4b", .str "c4fw"])
  | _ => .no
def s2 (i : Nat) : Sl := match i with
  | 1 => .val (.str "k 1 1 p k")
  | 2 => .val (.str "p 1 1 k p")
  | 3 => .val (.str "ktbl 1 1 ptbl ktbl")
  | 4 => .val (.str "ptbl 1 1 ktbl ptbl")
  | 5 => .val (.str "sl 1 1 slf sl")
  | 6 => .val (.str "slf 1 1 sl slf")
  | 7 => .val (.str "yo 0 1 yo yo")
  | 8 => .val (.str "co 0 1 co co")
  | 9 => .val (.str "bo 1 0 bo bo")
  | 10 => .val (.str "kfb 1 2 pfb kfb")
  | 11 => .val (.str "pfb 1 2 kfb pfb")
  | 12 => .val (.str "m1l 0 1 m1lp m1r")
  | 13 => .val (.str "m1r 0 1 m1rp m1l")
  | 14 => .val (.str "m1lp 0 1 m1l m1rp")
  | 15 => .val (.str "m1rp 0 1 m1r m1lp")
  | 16 => .val (.str "k2tog 2 1 p2tog ssk")
  | 17 => .val (.str "ssk 2 1 ssp k2tog")
  | 18 => .val (.str "p2tog 2 1 k2tog ssp")
  | 19 => .val (.str "ssp 2 1 ssk p2tog")
  | 20 => .val (.str "cdd 3 1 cddp cdd")
  | 21 => .val (.str "cddp 3 1 cdd cddp")
  | 22 => .val (.str "c2f 2 2 c2fw c2b")
  | 23 => .val (.str "c2b 2 2 c2bw c2f")
  | 24 => .val (.str "c2fw 2 2 c2f c2bw")
  | 25 => .val (.str "c2bw 2 2 c2b c2fw")
  | 26 => .val (.str "c4f 4 4 c4fw c4b")
  | 27 => .val (.str "c4b 4 4 c4bw c4f")
  | 28 => .val (.str "c4fw 4 4 c4f c4bw")
  | 29 => .val (.str "c4bw 4 4 c4b c4fw")
  | _ => .no
def KEn (i : Nat) (s : Sl) : DL.Env := [.own (.dic ((tb_KINDS.take i).map fun q => .inr q.1) ((tb_KINDS.take i).map (·.2))), .val KTx, s, sp5 i]
theorem ksplit : dSplit KTx (.str ", ") = some (.lst (rt.map .str)) := by kernel_rfl
theorem kst0 (n : Int) : KK2b (KEn 0 (s2 1)) n = some (.ok (.nx (KEn 1 (s2 1))), n) := by kernel_rfl
theorem kst1 (n : Int) : KK2b (KEn 1 (s2 2)) n = some (.ok (.nx (KEn 2 (s2 2))), n) := by kernel_rfl
theorem kst2 (n : Int) : KK2b (KEn 2 (s2 3)) n = some (.ok (.nx (KEn 3 (s2 3))), n) := by kernel_rfl
theorem kst3 (n : Int) : KK2b (KEn 3 (s2 4)) n = some (.ok (.nx (KEn 4 (s2 4))), n) := by kernel_rfl
theorem kst4 (n : Int) : KK2b (KEn 4 (s2 5)) n = some (.ok (.nx (KEn 5 (s2 5))), n) := by kernel_rfl
theorem kst5 (n : Int) : KK2b (KEn 5 (s2 6)) n = some (.ok (.nx (KEn 6 (s2 6))), n) := by kernel_rfl
theorem kst6 (n : Int) : KK2b (KEn 6 (s2 7)) n = some (.ok (.nx (KEn 7 (s2 7))), n) := by kernel_rfl
theorem kst7 (n : Int) : KK2b (KEn 7 (s2 8)) n = some (.ok (.nx (KEn 8 (s2 8))), n) := by kernel_rfl
theorem kst8 (n : Int) : KK2b (KEn 8 (s2 9)) n = some (.ok (.nx (KEn 9 (s2 9))), n) := by kernel_rfl
theorem kst9 (n : Int) : KK2b (KEn 9 (s2 10)) n = some (.ok (.nx (KEn 10 (s2 10))), n) := by kernel_rfl
theorem kst10 (n : Int) : KK2b (KEn 10 (s2 11)) n = some (.ok (.nx (KEn 11 (s2 11))), n) := by kernel_rfl
theorem kst11 (n : Int) : KK2b (KEn 11 (s2 12)) n = some (.ok (.nx (KEn 12 (s2 12))), n) := by kernel_rfl
theorem kst12 (n : Int) : KK2b (KEn 12 (s2 13)) n = some (.ok (.nx (KEn 13 (s2 13))), n) := by kernel_rfl
theorem kst13 (n : Int) : KK2b (KEn 13 (s2 14)) n = some (.ok (.nx (KEn 14 (s2 14))), n) := by kernel_rfl
theorem kst14 (n : Int) : KK2b (KEn 14 (s2 15)) n = some (.ok (.nx (KEn 15 (s2 15))), n) := by kernel_rfl
theorem kst15 (n : Int) : KK2b (KEn 15 (s2 16)) n = some (.ok (.nx (KEn 16 (s2 16))), n) := by kernel_rfl
theorem kst16 (n : Int) : KK2b (KEn 16 (s2 17)) n = some (.ok (.nx (KEn 17 (s2 17))), n) := by kernel_rfl
theorem kst17 (n : Int) : KK2b (KEn 17 (s2 18)) n = some (.ok (.nx (KEn 18 (s2 18))), n) := by kernel_rfl
theorem kst18 (n : Int) : KK2b (KEn 18 (s2 19)) n = some (.ok (.nx (KEn 19 (s2 19))), n) := by kernel_rfl
theorem kst19 (n : Int) : KK2b (KEn 19 (s2 20)) n = some (.ok (.nx (KEn 20 (s2 20))), n) := by kernel_rfl
theorem kst20 (n : Int) : KK2b (KEn 20 (s2 21)) n = some (.ok (.nx (KEn 21 (s2 21))), n) := by kernel_rfl
theorem kst21 (n : Int) : KK2b (KEn 21 (s2 22)) n = some (.ok (.nx (KEn 22 (s2 22))), n) := by kernel_rfl
theorem kst22 (n : Int) : KK2b (KEn 22 (s2 23)) n = some (.ok (.nx (KEn 23 (s2 23))), n) := by kernel_rfl
theorem kst23 (n : Int) : KK2b (KEn 23 (s2 24)) n = some (.ok (.nx (KEn 24 (s2 24))), n) := by kernel_rfl
theorem kst24 (n : Int) : KK2b (KEn 24 (s2 25)) n = some (.ok (.nx (KEn 25 (s2 25))), n) := by kernel_rfl
theorem kst25 (n : Int) : KK2b (KEn 25 (s2 26)) n = some (.ok (.nx (KEn 26 (s2 26))), n) := by kernel_rfl
theorem kst26 (n : Int) : KK2b (KEn 26 (s2 27)) n = some (.ok (.nx (KEn 27 (s2 27))), n) := by kernel_rfl
theorem kst27 (n : Int) : KK2b (KEn 27 (s2 28)) n = some (.ok (.nx (KEn 28 (s2 28))), n) := by kernel_rfl
theorem kst28 (n : Int) : KK2b (KEn 28 (s2 29)) n = some (.ok (.nx (KEn 29 (s2 29))), n) := by kernel_rfl
theorem forD_step {g : GX} {b : SX} {d : D} {ds : List D} {ρ ρ1 ρ2 : DL.Env} {n : Int} {r : Option (Except Xc Out × Int)} (h1 : g d ρ = some ρ1) (h2 : b ρ1 n = some (.ok (.nx ρ2), n)) (h3 : forD g b ds ρ2 n = r) : forD g b (d :: ds) ρ n = r := by
  rw [forD_cons]; simp [h1, h2, h3]
theorem kloop (n : Int) : forD (gV 2) KK2b (rt.map .str) (KEn 0 .no) n = some (.ok (.nx (KEn 29 (s2 29))), n) :=
  forD_step (ρ1 := KEn 0 (s2 1)) rfl (kst0 n) (forD_step (ρ1 := KEn 1 (s2 2)) rfl (kst1 n) (forD_step (ρ1 := KEn 2 (s2 3)) rfl (kst2 n) (forD_step (ρ1 := KEn 3 (s2 4)) rfl (kst3 n) (forD_step (ρ1 := KEn 4 (s2 5)) rfl (kst4 n) (forD_step (ρ1 := KEn 5 (s2 6)) rfl (kst5 n) (forD_step (ρ1 := KEn 6 (s2 7)) rfl (kst6 n) (forD_step (ρ1 := KEn 7 (s2 8)) rfl (kst7 n) (forD_step (ρ1 := KEn 8 (s2 9)) rfl (kst8 n) (forD_step (ρ1 := KEn 9 (s2 10)) rfl (kst9 n) (forD_step (ρ1 := KEn 10 (s2 11)) rfl (kst10 n) (forD_step (ρ1 := KEn 11 (s2 12)) rfl (kst11 n) (forD_step (ρ1 := KEn 12 (s2 13)) rfl (kst12 n) (forD_step (ρ1 := KEn 13 (s2 14)) rfl (kst13 n) (forD_step (ρ1 := KEn 14 (s2 15)) rfl (kst14 n) (forD_step (ρ1 := KEn 15 (s2 16)) rfl (kst15 n) (forD_step (ρ1 := KEn 16 (s2 17)) rfl (kst16 n) (forD_step (ρ1 := KEn 17 (s2 18)) rfl (kst17 n) (forD_step (ρ1 := KEn 18 (s2 19)) rfl (kst18 n) (forD_step (ρ1 := KEn 19 (s2 20)) rfl (kst19 n) (forD_step (ρ1 := KEn 20 (s2 21)) rfl (kst20 n) (forD_step (ρ1 := KEn 21 (s2 22)) rfl (kst21 n) (forD_step (ρ1 := KEn 22 (s2 23)) rfl (kst22 n) (forD_step (ρ1 := KEn 23 (s2 24)) rfl (kst23 n) (forD_step (ρ1 := KEn 24 (s2 25)) rfl (kst24 n) (forD_step (ρ1 := KEn 25 (s2 26)) rfl (kst25 n) (forD_step (ρ1 := KEn 26 (s2 27)) rfl (kst26 n) (forD_step (ρ1 := KEn 27 (s2 28)) rfl (kst27 n) (forD_step (ρ1 := KEn 28 (s2 29)) rfl (kst28 n) (rfl)))))))))))))))))))))))))))))
theorem kinds_ok (n : Int) : f__law_kinds [] n = some (.ok KT, n) := by
  have h : KK2 (KEn 0 .no) n = some (.ok (.nx (KEn 29 (s2 29))), n) := by
    show sFor (gV 2) (iOf (e2 dSplit (eVar 1) (eC (.str ", ")))) KK2b (KEn 0 .no) n = _
    rw [sFor_ap]
    have e : iOf (e2 dSplit (eVar 1) (eC (.str ", "))) (KEn 0 .no) n = some (.ok (rt.map .str), n) := by
      unfold KEn
      simp [ksplit]
    rw [bind_ap, e]
    exact kloop n
  show M.bind (g__law_kinds _) runK n = _
  rw [KK_eq, bind_ap]
  have h0 : KK [.no, .no, .no, .no] n = some (.ok (.ret KT), n) := by
    show sSeq KK0 (sSeq KK1 (sSeq KK2 _)) _ n = _
    exact seq_go (ρ1 := [.own (.dic [] []), .no, .no, .no]) (n1 := n) rfl (seq_go (ρ1 := KEn 0 .no) (n1 := n) rfl (seq_go h rfl))
  show bindR (KK [.no, .no, .no, .no] n) runK = _
  rw [h0]
  rfl
end K57
end

section
set_option Elab.async false
set_option linter.all false
set_option autoImplicit false
set_option maxRecDepth 100000
namespace K57
open DL PySem L2 P_k57_whole_spread PyProof.Rows
theorem ints_int : ∀ ns : List Int, dInts (ns.map D.int) = some ns
  | [] => rfl
  | k :: r => by
    rw [List.map_cons]
    show (match dInts (r.map D.int) with | some ns => some (k :: ns) | none => none) = _
    rw [ints_int r]
def Kd.m : Kd → Nat
  | .k => 1 | .p => 1 | .sl => 1 | .yo => 1 | .k2tog => 1 | .ssk => 1 | .kfb => 2 | .m1l => 1 | .c2f => 2 | .ktbl => 1 | .p2tog => 1 | .bo => 0
def M (w : Word) : Nat := (w.map fun c => c.k.m).sum
theorem M_app (a b : Word) : K57.M (a ++ b) = K57.M a + K57.M b := by unfold K57.M; rw [List.map_append, List.sum_append]
def evR : Row → Bool
  | [_, g, _] => decide (K57.T g = K57.M g)
  | _ => false
def chg : Row → Int
  | [b, _, a] => (K57.M b : Int) + K57.M a - K57.T b - K57.T a
  | _ => 0
def Ow (r : Row) : Prop := ∃ b g a, r = rw3 b g a ∧ rowB b g a = true
theorem rowB_len {b g a : Word} (h : rowB b g a = true) : b.length ≤ 60 ∧ g.length ≤ 30 ∧ a.length ≤ 60 := by
  unfold rowB at h
  simp only [Bool.and_eq_true, decide_eq_true_eq] at h
  exact ⟨h.1.1.1, h.1.1.2, h.1.2⟩
inductive Part where
  | row (r : Row)
  | blk (t : Nat) (rs : List Row)
def pD : Part → D
  | .row r => .tup [.str "row", PyE.enc r]
  | .blk t rs => .tup [.str "block", .tup [.int t, .int 0], encT rs]
def prs : Part → List Row
  | .row r => [r]
  | .blk _ rs => rs
def pun : Part → List Row
  | .row r => [r]
  | .blk t rs => pw rs t
def Op : Part → Prop
  | .row r => Ow r
  | .blk t rs => 2 ≤ t ∧ t ≤ 99 ∧ 1 ≤ rs.length ∧ rs.length ≤ 20 ∧ (∀ r ∈ rs, Ow r) ∧ rs.all evR = true ∧ -12 ≤ (rs.map chg).sum ∧ (rs.map chg).sum ≤ 12
end K57
end

section
set_option Elab.async false
set_option linter.all false
set_option autoImplicit false
set_option maxRecDepth 100000
namespace K57
open DL PySem L2 P_k57_whole_spread PyProof.Rows
theorem mk_ok (k : Kd) : (dIxK tb_KINDS (.str k.s)).bind (fun x => dIx x (.int 1)) = some (.int k.m) := by cases k <;> kernel_rfl
theorem makes_ok (w : Word) (hl : w.length ≤ 1000) (n : Int) : f_makes [encT w] n = some (.ok (.int (K57.M w)), n) := by
  have c := comp_all (PyE.enc : Cell → D) (compB [1, 2] (gT (gsC (gV 1) (gsC (gV 2) gsN))) tYesD (e2 dIx (e1 (dIxK tb_KINDS) (eVar 1)) (eC (.int 1))) [.val (encT w), .no, .no]) (fun c => .int (c.k.m : Nat)) n w fun x _ => by
    have h := mk_ok x.k
    have e : (PyE.enc x : D) = .tup [.str x.k.s, .str x.y.s] := rfl
    rw [e]
    cases hk : dIxK tb_KINDS (.str x.k.s) with
    | none => rw [hk] at h; cases h
    | some d =>
      rw [hk, Option.bind_some] at h
      simp [hk, h]
  have a := sum_nat (w.map fun c => c.k.m)
  rw [List.map_map] at a
  have z := z_small w (fun c : Cell => D.int (c.k.m : Nat)) (by omega)
  have it : dItems (encT w) = some (w.map PyE.enc) := rfl
  have a : dSum [.lst (w.map fun c : Cell => D.int (c.k.m : Nat))] = some (.int (K57.M w)) := a
  generalize (w.map fun c : Cell => D.int (c.k.m : Nat)) = B at *
  generalize (w.map (PyE.enc : Cell → D)) = A at *
  generalize encT w = Z at *
  simp only [f_makes, g_makes]
  simp [it, c, mkLst_of z, a]
theorem isrow_ok {r : Row} (h : Ow r) (n : Int) : f_is_row [PyE.enc r] n = some (.ok (.bl true), n) := by
  obtain ⟨b, g, a, rfl, hb⟩ := h
  obtain ⟨h1, h2, h3⟩ := rowB_len hb
  have := is_row_ok b g a (by omega) (by omega) (by omega) n
  rw [hb] at this
  exact this
theorem even_ok {r : Row} (h : Ow r) (n : Int) : f_is_even [PyE.enc r] n = some (.ok (.bl (evR r)), n) := by
  obtain ⟨b, g, a, rfl, hb⟩ := h
  obtain ⟨h1, h2, h3⟩ := rowB_len hb
  have t := takes_ok g (by omega) n
  have m := makes_ok g (by omega) n
  have ev : evR (rw3 b g a) = decide (K57.T g = K57.M g) := rfl
  rw [ev]
  show f_is_even [rD b g a] n = _
  unfold rD
  generalize encT b = B at *
  generalize encT g = G at *
  generalize encT a = A at *
  have x1 : dIx (.tup [B, G, A]) (.int 1) = some G := rfl
  have : decide ((K57.T g : Int) = K57.M g) = decide (K57.T g = K57.M g) := decide_eq_decide.mpr (by omega)
  rw [← this]
  simp only [f_is_even, g_is_even]
  simp [x1, t, m]
theorem change_ok {r : Row} (h : Ow r) (n : Int) : f_change_of [PyE.enc r] n = some (.ok (.int (chg r)), n) := by
  obtain ⟨b, g, a, rfl, hb⟩ := h
  obtain ⟨h1, h2, h3⟩ := rowB_len hb
  have t1 := takes_ok b (by omega) n
  have m1 := makes_ok b (by omega) n
  have t2 := takes_ok a (by omega) n
  have m2 := makes_ok a (by omega) n
  have ev : chg (rw3 b g a) = (K57.M b : Int) + K57.M a - K57.T b - K57.T a := rfl
  rw [ev]
  show f_change_of [rD b g a] n = _
  unfold rD
  generalize encT b = B at *
  generalize encT g = G at *
  generalize encT a = A at *
  have x1 : dIx (.tup [B, G, A]) (.int 0) = some B := rfl
  have x2 : dIx (.tup [B, G, A]) (.int 2) = some A := rfl
  simp only [f_change_of, g_change_of]
  simp [x1, x2, t1, m1, t2, m2]
theorem sum_int (ns : List Int) : dSum [.lst (ns.map D.int)] = some (.int ns.sum) := by
  unfold dSum
  simp only [ints_int]
theorem sum_map {α : Type} (f : α → Int) (xs : List α) : dSum [.lst (xs.map fun r => D.int (f r))] = some (.int (xs.map f).sum) := by
  have := sum_int (xs.map f)
  rw [List.map_map] at this
  exact this
theorem sum_run (v : Nat) (f : FX) (F : Row → Int) (it : IX) (ρ : DL.Env) (rs : List Row) (hl : rs.length ≤ 1000) (hf : ∀ r ∈ rs, ∀ n, f [PyE.enc r] n = some (.ok (.int (F r)), n)) (n : Int) (hi : it ρ n = some (.ok (rs.map PyE.enc), n)) (hv : ∀ d : D, eVar v ((hide (wipeD ρ [v])).set v (.val d)) n = some (.ok d, n)) :
    eB dSum (eCons (eComp [v] (gV v) it tYesD (eCall f (eCons (eVar v) eNil))) eNil) ρ n = some (.ok (.int (rs.map F).sum), n) := by
  have c := comp_all (PyE.enc : Row → D) (compB [v] (gV v) tYesD (eCall f (eCons (eVar v) eNil)) ρ) (fun r => D.int (F r)) n rs fun r hr => by
    have e := hf r hr n
    have x := hv (PyE.enc r)
    rw [compB_ap, gV_ap, bind_ap, opt_some, bindR_ok]
    generalize (PyE.enc r : D) = Z at *
    generalize (hide (wipeD ρ [v])).set v (.val Z) = ρ1 at *
    simp [x, e]
  have z : (rs.map fun r => D.int (F r)).length ≤ 16777216 := by rw [List.length_map]; omega
  have ml := mkLst_of z
  have s := sum_map F rs
  generalize (rs.map fun r => D.int (F r)) = B at *
  generalize (rs.map (PyE.enc : Row → D)) = A at *
  generalize (rs.map F).sum = S at *
  have : eComp [v] (gV v) it tYesD (eCall f (eCons (eVar v) eNil)) ρ n = some (.ok (.lst B), n) := by
    rw [eComp_ap, bind_ap, hi, bindR_ok, bind_ap, calm_ap, c, calmR_ok, bindR_ok, ml, opt_some]
  generalize eComp [v] (gV v) it tYesD (eCall f (eCons (eVar v) eNil)) = CC at *
  simp [this, s]
theorem all_run (v : Nat) (e0 : EX) (F : Row → Bool) (it : IX) (ρ : DL.Env) (rs : List Row) (hl : rs.length ≤ 1000) (n : Int) (hf : ∀ r ∈ rs, e0 ((hide (wipeD ρ [v])).set v (.val (PyE.enc r))) n = some (.ok (.bl (F r)), n)) (hi : it ρ n = some (.ok (rs.map PyE.enc), n)) :
    eB dAll (eCons (eComp [v] (gV v) it tYesD e0) eNil) ρ n = some (.ok (.bl (rs.all F)), n) := by
  have c := comp_all (PyE.enc : Row → D) (compB [v] (gV v) tYesD e0 ρ) (fun r => D.bl (F r)) n rs fun r hr => by
    have e := hf r hr
    rw [compB_ap, gV_ap, bind_ap, opt_some, bindR_ok]
    generalize (hide (wipeD ρ [v])).set v (.val (PyE.enc r)) = ρ1 at *
    simp [e]
  have z : (rs.map fun r => D.bl (F r)).length ≤ 16777216 := by rw [List.length_map]; omega
  have ml := mkLst_of z
  have s := all_map F rs
  generalize (rs.map fun r => D.bl (F r)) = B at *
  generalize (rs.map (PyE.enc : Row → D)) = A at *
  generalize rs.all F = S at *
  have : eComp [v] (gV v) it tYesD e0 ρ n = some (.ok (.lst B), n) := by
    rw [eComp_ap, bind_ap, hi, bindR_ok, bind_ap, calm_ap, c, calmR_ok, bindR_ok, ml, opt_some]
  generalize eComp [v] (gV v) it tYesD e0 = CC at *
  simp [this, s]
theorem is_line_ok (t : Nat) (h : t ≤ 99) (n : Int) : f_is_line [.tup [.int t, .int 0]] n = some (.ok (.bl true), n) := by
  have nm : ∀ i : Int, f_is_number [.int i] n = some (.ok (.bl true), n) := fun i => by
    have a : dIsi "int" (.int i) = some (.bl true) := rfl
    have b : dIsi "bool" (.int i) = some (.bl false) := rfl
    simp only [f_is_number, g_is_number]
    simp [a, b]
  have i1 : dIsi "tuple" (.tup [.int (t : Int), .int 0]) = some (.bl true) := rfl
  have x0 : dIx (.tup [.int (t : Int), .int 0]) (.int 0) = some (.int t) := rfl
  have x1 : dIx (.tup [.int (t : Int), .int 0]) (.int 1) = some (.int 0) := rfl
  have l : dLen [.tup [.int (t : Int), .int 0]] = some (.int 2) := rfl
  have ab : dAbs [.int (t : Int)] = some (.int t) := by
    show some (D.int (if (t : Int) < 0 then -t else t)) = _
    rw [if_neg (by omega)]
  have ab0 : dAbs [.int 0] = some (.int 0) := rfl
  have le1 : dLeA (.int (t : Int)) (.int 99) = some (.bl true) := by
    show some (D.bl (decide ((t : Int) ≤ 99))) = _
    rw [decide_eq_true (by omega)]
  have le2 : dLeA (.int 0) (.int 9) = some (.bl true) := rfl
  generalize (D.tup [.int (t : Int), .int 0]) = Z at *
  have nt := nm t
  have n0 := nm 0
  generalize (D.int (t : Int)) = TT at *
  simp only [f_is_line, g_is_line]
  simp [i1, x0, x1, l, ab, ab0, le1, le2, nt, n0]
theorem s_rr : dEq (.str "row") (.str "row") = some (.bl true) := by kernel_rfl
theorem s_br : dEq (.str "block") (.str "row") = some (.bl false) := by kernel_rfl
theorem s_bb : dEq (.str "block") (.str "block") = some (.bl true) := by kernel_rfl
theorem s_rb : dEq (.str "row") (.str "block") = some (.bl false) := by kernel_rfl
theorem n_bb : dNe (.str "block") (.str "block") = some (.bl false) := by kernel_rfl
def absI (i : Int) : Int := if i < 0 then -i else i
theorem absI_le {i k : Int} : absI i ≤ k ↔ -k ≤ i ∧ i ≤ k := by unfold absI; split <;> omega
theorem is_part_row {r : Row} (h : Ow r) (n : Int) : f_is_part [pD (.row r)] n = some (.ok (.bl true), n) := by
  have k := isrow_ok h n
  show f_is_part [.tup [.str "row", PyE.enc r]] n = _
  generalize (PyE.enc r : D) = Z at *
  have i1 : dIsi "tuple" (.tup [.str "row", Z]) = some (.bl true) := rfl
  have x0 : dIx (.tup [.str "row", Z]) (.int 0) = some (.str "row") := rfl
  have x1 : dIx (.tup [.str "row", Z]) (.int 1) = some Z := rfl
  have l : dLen [.tup [.str "row", Z]] = some (.int 2) := rfl
  generalize (D.tup [.str "row", Z]) = Y at *
  simp only [f_is_part, g_is_part]
  simp [i1, x0, x1, l, s_rr, k]
theorem is_part_blk {t : Nat} {rs : List Row} (h1 : t ≤ 99) (h2 : 1 ≤ rs.length) (h3 : rs.length ≤ 20) (h4 : ∀ r ∈ rs, Ow r) (h5 : rs.all evR = true) (n : Int) : f_is_part [pD (.blk t rs)] n = some (.ok (.bl (decide (absI (rs.map chg).sum ≤ 12))), n) := by
  have ln := is_line_ok t h1 n
  show f_is_part [.tup [.str "block", .tup [.int t, .int 0], encT rs]] n = _
  have i2 : dIsi "tuple" (encT rs) = some (.bl true) := rfl
  have it : dItems (encT rs) = some (rs.map PyE.enc) := rfl
  have lr := dLen_T rs
  have c1 : dLeA (.int 1) (.int (rs.length : Int)) = some (.bl true) := by
    show some (D.bl (decide (1 ≤ (rs.length : Int)))) = _
    rw [decide_eq_true (by omega)]
  have c2 : dLeA (.int (rs.length : Int)) (.int 20) = some (.bl true) := by
    show some (D.bl (decide ((rs.length : Int) ≤ 20))) = _
    rw [decide_eq_true (by omega)]
  have A := fun (x : D) (hx : dIx x (.int 2) = some (encT rs)) => all_run 1 (eAnd (eCall (f_is_row) (eCons (eVar 1) eNil)) (eCall (f_is_even) (eCons (eVar 1) eNil))) evR (iOf (e2 dIx (eVar 0) (eC (.int 2)))) [.val x, .no] rs (by omega) n (fun r hr => by
    have e1 := isrow_ok (h4 r hr) n
    have e2 := even_ok (h4 r hr) n
    generalize (PyE.enc r : D) = Z at *
    simp [e1, e2]) (by simp [hx, it])
  have S := fun (x : D) (hx : dIx x (.int 2) = some (encT rs)) => sum_run 1 f_change_of chg (iOf (e2 dIx (eVar 0) (eC (.int 2)))) [.val x, .no] rs (by omega) (fun r hr n => change_ok (h4 r hr) n) n (by simp [hx, it]) (fun d => rfl)
  rw [h5] at A
  have ab : dAbs [.int (rs.map chg).sum] = some (.int (absI (rs.map chg).sum)) := rfl
  have le : dLeA (.int (absI (rs.map chg).sum)) (.int 12) = some (.bl (decide (absI (rs.map chg).sum ≤ 12))) := rfl
  generalize absI (rs.map chg).sum = AA at *
  generalize (rs.map chg).sum = SS at *
  generalize (D.int (rs.length : Int)) = LL at *
  generalize encT rs = R at *
  generalize (D.tup [.int (t : Int), .int 0]) = L at *
  have i1 : dIsi "tuple" (.tup [.str "block", L, R]) = some (.bl true) := rfl
  have x0 : dIx (.tup [.str "block", L, R]) (.int 0) = some (.str "block") := rfl
  have x1 : dIx (.tup [.str "block", L, R]) (.int 1) = some L := rfl
  have x2 : dIx (.tup [.str "block", L, R]) (.int 2) = some R := rfl
  have l : dLen [.tup [.str "block", L, R]] = some (.int 3) := rfl
  have A := A _ x2
  have S := S _ x2
  generalize (D.tup [.str "block", L, R]) = Y at *
  have rch : f_round_change [Y] n = some (.ok (.int SS), n) := by
    simp only [f_round_change, g_round_change]
    generalize (eB dSum (eCons (eComp [1] (gV 1) (iOf (e2 dIx (eVar 0) (eC (.int 2)))) tYesD (eCall (f_change_of) (eCons (eVar 1) eNil))) eNil)) = CC at *
    simp [S]
  simp only [f_is_part, g_is_part]
  generalize (eB dAll (eCons (eComp [1] (gV 1) (iOf (e2 dIx (eVar 0) (eC (.int 2)))) tYesD (eAnd (eCall (f_is_row) (eCons (eVar 1) eNil)) (eCall (f_is_even) (eCons (eVar 1) eNil)))) eNil)) = CC at *
  simp [i1, x0, x1, x2, l, s_br, n_bb, ln, i2, lr, c1, c2, A, rch, ab, le]
theorem is_part_ok {p : Part} (h : Op p) (n : Int) : f_is_part [pD p] n = some (.ok (.bl true), n) := by
  cases p with
  | row r => exact is_part_row h n
  | blk t rs =>
    obtain ⟨h1, h2, h3, h4, h5, h6, h7, h8⟩ := h
    rw [is_part_blk h2 h3 h4 h5 h6, decide_eq_true (absI_le.mpr ⟨h7, h8⟩)]
theorem rows_ok (p : Part) (n : Int) : f_rows_of [pD p] n = some (.ok (encT (prs p)), n) := by
  cases p with
  | row r =>
    have x0 : dIx (pD (.row r)) (.int 0) = some (.str "row") := rfl
    have c : dCut (pD (.row r)) (some 1) none = some (encT (prs (.row r))) := rfl
    generalize encT (prs (.row r)) = Z at *
    generalize pD (.row r) = Y at *
    simp only [f_rows_of, g_rows_of]
    simp [x0, c, s_rr]
  | blk t rs =>
    have x0 : dIx (pD (.blk t rs)) (.int 0) = some (.str "block") := rfl
    have c : dIx (pD (.blk t rs)) (.int 2) = some (encT (prs (.blk t rs))) := rfl
    generalize encT (prs (.blk t rs)) = Z at *
    generalize pD (.blk t rs) = Y at *
    simp only [f_rows_of, g_rows_of]
    simp [x0, c, s_br]
theorem op_rows {p : Part} (h : Op p) : (prs p).length ≤ 20 ∧ ∀ r ∈ prs p, Ow r := by
  cases p with
  | row r => exact ⟨by show 1 ≤ 20; omega, fun x hx => by rw [List.mem_singleton.mp hx]; exact h⟩
  | blk t rs => exact ⟨h.2.2.2.1, h.2.2.2.2.1⟩
theorem evar_get {i : Nat} {ρ : DL.Env} {d : D} {n : Int} (h : ρ[i]? = some (.val d)) : eVar i ρ n = some (.ok d, n) := by
  show M.opt (match ρ[i]? with | some (Sl.val d) => some d | _ => none) n = _
  rw [h]
  rfl
theorem evar_hs {v : Nat} {ρ : DL.Env} {d : D} {n : Int} (h : v < ρ.length) : eVar v ((hide (wipeD ρ [v])).set v (.val d)) n = some (.ok d, n) :=
  evar_get (List.getElem?_set_self (by rw [hide_length, wipeD_length]; exact h))
theorem cutL_mid {α : Type} [PyE α] (xs : List α) (i j : Nat) : dCut (encL xs) (some (i : Int)) (some (j : Int)) = some (encL ((xs.take j).drop i)) := by
  have h := cut_mid xs i j
  unfold dCut encT at h
  simp only [Option.some.injEq, D.tup.injEq] at h
  exact congrArg (fun x => some (D.lst x)) h
theorem dLen_L {α : Type} [PyE α] (xs : List α) : dLen [encL xs] = some (.int xs.length) := by simp [encL]
theorem ixAL {α : Type} [PyE α] {xs : List α} {x : α} {j : Nat} (h : xs[j]? = some x) : dIxA (encL xs) (.int (j : Int)) = some (PyE.enc x) := ixAL_nat (by rw [List.getElem?_map, h]; rfl)
theorem lstA_T {α : Type} [PyE α] (xs : List α) : dLstA [encT xs] = some (encL xs) := rfl
theorem isl_L {α : Type} [PyE α] (xs : List α) : dIsi "list" (encL xs) = some (.bl true) := rfl
theorem it_L {α : Type} [PyE α] (xs : List α) : dItems (encL xs) = some (xs.map PyE.enc) := rfl
end K57
end

section
set_option Elab.async false
set_option linter.all false
set_option autoImplicit false
set_option maxRecDepth 100000
namespace K57
open DL PySem L2 P_k57_whole_spread PyProof.Rows
/-! ### gaps -/
def gD (g : List Nat) : D := .lst (g.map fun k : Nat => D.int k)
theorem gD_len (g : List Nat) : dLen [gD g] = some (.int g.length) := by simp [gD]
theorem gD_sum (g : List Nat) : dSum [gD g] = some (.int (g.sum : Nat)) := sum_nat g
theorem gD_get (g : List Nat) {j : Nat} (h : j < g.length) : dIxA (gD g) (.int (j : Int)) = some (.int (g.getD j 0 : Nat)) := by
  refine ixAL_nat (x := .int (g.getD j 0 : Nat)) ?_
  rw [List.getElem?_map, List.getElem?_eq_getElem h, List.getD_eq_getElem?_getD, List.getElem?_eq_getElem h]
  rfl
theorem num_ok (i n : Int) : f_is_number [.int i] n = some (.ok (.bl true), n) := by
  have a : dIsi "int" (.int i) = some (.bl true) := rfl
  have b : dIsi "bool" (.int i) = some (.bl false) := rfl
  simp only [f_is_number, g_is_number]
  simp [a, b]
theorem leA_nat (a b : Int) : dLeA (.int a) (.int b) = some (.bl (decide (a ≤ b))) := rfl
theorem gaps_ok (g : List Nat) (h1 : 1 ≤ g.length) (h2 : g.length ≤ 60) (h3 : ∀ k ∈ g, k ≤ 10000) (n : Int) : f_check_gaps [gD g] n = some (.ok .non, n) := by
  have c := comp_all (fun k : Nat => D.int k) (compB [1] (gV 1) tYesD (eAnd (eCall (f_is_number) (eCons (eVar 1) eNil)) (eChain dLeA dLeA (eC (.int 0)) (eVar 1) (eC (.int 10000)))) [.val (gD g), .no]) (fun _ => .bl true) n g fun k hk => by
    have e := num_ok (k : Int) n
    have l1 := leA_nat 0 (k : Int)
    have l2 := leA_nat (k : Int) 10000
    rw [decide_eq_true (by omega)] at l1
    rw [decide_eq_true (by have := h3 k hk; omega)] at l2
    generalize gD g = Z at *
    simp [e, l1, l2]
  have a := all_map (fun _ : Nat => true) g
  have at' : g.all (fun _ => true) = true := by rw [List.all_eq_true]; exact fun _ _ => rfl
  rw [at'] at a
  have z := z_small g (fun _ => D.bl true) (by omega)
  have i1 : dIsi "list" (gD g) = some (.bl true) := rfl
  have it : dItems (gD g) = some (g.map fun k : Nat => D.int k) := rfl
  have l := gD_len g
  have l1 := leA_nat 1 (g.length : Int)
  have l2 := leA_nat (g.length : Int) 60
  rw [decide_eq_true (by omega)] at l1 l2
  generalize (g.map fun _ => D.bl true) = B at *
  generalize (g.map fun k : Nat => D.int k) = A at *
  generalize gD g = Z at *
  simp only [f_check_gaps, g_check_gaps]
  simp [i1, it, l, l1, l2, c, mkLst_of z, a]
theorem win_succ (g : List Nat) (a w : Nat) : win g a (w + 1) = win g a w + G g (a + w) := by
  have h1 := win_add g a w
  have h2 := win_add g a (w + 1)
  have : P g (a + (w + 1)) = P g (a + w) + G g (a + w) := rfl
  omega
theorem win_zero (g : List Nat) (a : Nat) : win g a 0 = 0 := by
  have := win_add g a 0
  rw [Nat.add_zero] at this
  omega
theorem win_sum (g : List Nat) (a : Nat) : ∀ w, ((List.range w).map fun i => G g (a + i)).sum = win g a w
  | 0 => by rw [win_zero]; rfl
  | w + 1 => by rw [List.range_succ, List.map_append, List.sum_append, win_sum g a w, win_succ]; simp
theorem sum_from_ok (g : List Nat) (h1 : g ≠ []) (a w : Nat) (ha : a ≤ 100000) (hw : w ≤ 100000) (n : Int) : f_sum_from [gD g, .int a, .int w] n = some (.ok (.int (win g a w : Nat)), n) := by
  have hn : 0 < g.length := List.length_pos_iff.mpr h1
  have c := comp_all (fun i : Nat => D.int i) (compB [3] (gV 3) tYesD (e2 dIxA (eVar 0) (e2 dMod (e2 dAdd (eVar 1) (eVar 3)) (eB dLen (eCons (eVar 0) eNil)))) [.val (gD g), .val (.int a), .val (.int w), .no]) (fun i => .int (G g (a + i) : Nat)) n (List.range w) fun i _ => by
    have l := gD_len g
    have m : dMod (.int ((a : Int) + i)) (.int g.length) = some (.int (((a + i) % g.length : Nat) : Int)) := by
      rw [dMod_int (by omega)]
      rfl
    have x := gD_get g (Nat.mod_lt (a + i) hn)
    have gg : g.getD ((a + i) % g.length) 0 = G g (a + i) := rfl
    rw [gg] at x
    generalize gD g = Z at *
    generalize (((a + i) % g.length : Nat) : Int) = J at *
    generalize ((G g (a + i) : Nat) : Int) = GG at *
    generalize (g.length : Int) = LL at *
    simp [l, m, x]
  have s := sum_nat ((List.range w).map fun i => G g (a + i))
  rw [win_sum, List.map_map] at s
  replace s : dSum [.lst ((List.range w).map fun i : Nat => D.int (G g (a + i) : Nat))] = _ := s
  have z := z_small (List.range w) (fun i : Nat => D.int (G g (a + i) : Nat)) (by rw [List.length_range]; omega)
  have r := rng1 w (by omega)
  generalize ((List.range w).map fun i : Nat => D.int (G g (a + i) : Nat)) = B at *
  generalize ((List.range w).map fun i : Nat => D.int i) = A at *
  generalize gD g = Z at *
  simp only [f_sum_from, g_sum_from]
  simp [r, c, mkLst_of z, s]
theorem spr_el (S k a : Nat) (hS : S ≤ 1000000) (hk : 0 < k) (hk2 : k ≤ 1000) (ha : a ≤ 1000) : (dMul (.int ((a : Int) + 1)) (.int S) = some (.int (((a + 1) * S : Nat) : Int))) ∧ (dMul (.int (a : Int)) (.int S) = some (.int ((a * S : Nat) : Int))) ∧ (∀ x : Nat, dDiv (.int (x : Int)) (.int k) = some (.int ((x / k : Nat) : Int))) ∧ (((a + 1) * S / k : Nat) : Int) - ((a * S / k : Nat) : Int) = (((a + 1) * S / k - a * S / k : Nat) : Int) := by
  refine ⟨?_, ?_, fun x => ?_, ?_⟩
  · rw [mul_r _ _ (by omega) (by omega), Int.natCast_mul]; rfl
  · rw [mul_r _ _ (by omega) (by omega), Int.natCast_mul]
  · rw [dDiv_int (by omega) (by omega)]; rfl
  · have := Q_mono S k a (a + 1) (by omega)
    omega
theorem spread_ok (S k : Nat) (hS : S ≤ 10000) (hk : 1 ≤ k) (hk2 : k ≤ 60) (n : Int) : f_spread [.int S, .int k] n = some (.ok (gD (spr S k)), n) := by
  have c := comp_all (fun i : Nat => D.int i) (compB [2] (gV 2) tYesD (e2 dSub (e2 dDiv (e2 dMul (e2 dAdd (eVar 2) (eC (.int 1))) (eVar 0)) (eVar 1)) (e2 dDiv (e2 dMul (eVar 2) (eVar 0)) (eVar 1))) [.val (.int S), .val (.int k), .no]) (fun a => .int (((a + 1) * S / k - a * S / k : Nat) : Int)) n (List.range k) fun a ha => by
    obtain ⟨e1, e2, e3, e4⟩ := spr_el S k a (by omega) (by omega) (by omega) (by have := List.mem_range.mp ha; omega)
    rw [← e4]
    have d1 := e3 ((a + 1) * S)
    have d2 := e3 (a * S)
    clear e3 e4
    generalize (((a + 1) * S / k : Nat) : Int) = Y1 at *
    generalize ((a * S / k : Nat) : Int) = Y2 at *
    generalize (((a + 1) * S : Nat) : Int) = X1 at *
    generalize ((a * S : Nat) : Int) = X2 at *
    simp [e1, e2, d1, d2]
  have z := z_small (List.range k) (fun a : Nat => D.int (((a + 1) * S / k - a * S / k : Nat) : Int)) (by rw [List.length_range]; omega)
  have r := rng1 k (by omega)
  have e : D.lst ((List.range k).map fun a : Nat => D.int (((a + 1) * S / k - a * S / k : Nat) : Int)) = gD (spr S k) := by
    unfold gD spr
    rw [List.map_map]
    rfl
  have ml := mkLst_of z
  rw [e] at ml
  have n1 := num_ok (S : Int) n
  have n2 := num_ok (k : Int) n
  have l1 := leA_nat 0 (S : Int)
  have l2 := leA_nat (S : Int) 10000
  have l3 := leA_nat 1 (k : Int)
  have l4 := leA_nat (k : Int) 60
  rw [decide_eq_true (by omega)] at l1 l2 l3 l4
  generalize ((List.range k).map fun a : Nat => D.int (((a + 1) * S / k - a * S / k : Nat) : Int)) = B at *
  generalize ((List.range k).map fun i : Nat => D.int i) = A at *
  generalize gD (spr S k) = Z at *
  simp only [f_spread, g_spread]
  simp [n1, n2, l1, l2, l3, l4, r, c, ml]
end K57
end

section
set_option Elab.async false
set_option linter.all false
set_option autoImplicit false
set_option maxRecDepth 100000
namespace K57
open DL PySem L2 P_k57_whole_spread PyProof.Rows
theorem again_ok (g : List Nat) (h1 : 1 ≤ g.length) (h2 : g.length ≤ 60) (h3 : g.sum ≤ 1000000) (n : Int) : f_spread_again [gD g] n = some (.ok (gD (spr g.sum g.length)), n) := by
  have c := comp_all (fun i : Nat => D.int i) (compB [3] (gV 3) tYesD (e2 dSub (e2 dDiv (e2 dMul (e2 dAdd (eVar 3) (eC (.int 1))) (eVar 1)) (eVar 2)) (e2 dDiv (e2 dMul (eVar 3) (eVar 1)) (eVar 2))) [.val (gD g), .val (.int (g.sum : Nat)), .val (.int g.length), .no]) (fun a => .int (((a + 1) * g.sum / g.length - a * g.sum / g.length : Nat) : Int)) n (List.range g.length) fun a ha => by
    obtain ⟨e1, e2, e3, e4⟩ := spr_el g.sum g.length a (by omega) (by omega) (by omega) (by have := List.mem_range.mp ha; omega)
    rw [← e4]
    have d1 := e3 ((a + 1) * g.sum)
    have d2 := e3 (a * g.sum)
    clear e3 e4
    generalize (((a + 1) * g.sum / g.length : Nat) : Int) = Y1 at *
    generalize ((a * g.sum / g.length : Nat) : Int) = Y2 at *
    generalize (((a + 1) * g.sum : Nat) : Int) = X1 at *
    generalize ((a * g.sum : Nat) : Int) = X2 at *
    generalize gD g = Z at *
    simp [e1, e2, d1, d2]
  have z := z_small (List.range g.length) (fun a : Nat => D.int (((a + 1) * g.sum / g.length - a * g.sum / g.length : Nat) : Int)) (by rw [List.length_range]; omega)
  have r := rng1 g.length (by omega)
  have e : D.lst ((List.range g.length).map fun a : Nat => D.int (((a + 1) * g.sum / g.length - a * g.sum / g.length : Nat) : Int)) = gD (spr g.sum g.length) := by
    unfold gD spr
    rw [List.map_map]
    rfl
  have ml := mkLst_of z
  rw [e] at ml
  have l := gD_len g
  have s := gD_sum g
  generalize ((List.range g.length).map fun a : Nat => D.int (((a + 1) * g.sum / g.length - a * g.sum / g.length : Nat) : Int)) = B at *
  generalize ((List.range g.length).map fun i : Nat => D.int i) = A at *
  generalize gD (spr g.sum g.length) = Z1 at *
  generalize gD g = Z at *
  simp only [f_spread_again, g_spread_again]
  simp [l, s, r, c, ml]
/-! ### the verdicts -/
def evD (sh : Int) : D := .obj 5 ["shift"] [.int sh]
def unD (a b w : Int) : D := .obj 6 ["one", "other", "width"] [.int a, .int b, .int w]
theorem ev_init (sh n : Int) : f_Even___init__ [.int sh] n = some (.ok (evD sh), n) := by kernel_rfl
theorem un_init (a b w n : Int) : f_Uneven___init__ [.int a, .int b, .int w] n = some (.ok (unD a b w), n) := by kernel_rfl
theorem ev_fld (sh : Int) : dFld 5 "shift" (evD sh) = some (.int sh) := by kernel_rfl
theorem un_one (a b w : Int) : dFld 6 "one" (unD a b w) = some (.int a) := by kernel_rfl
theorem un_other (a b w : Int) : dFld 6 "other" (unD a b w) = some (.int b) := by kernel_rfl
theorem un_width (a b w : Int) : dFld 6 "width" (unD a b w) = some (.int w) := by kernel_rfl
end K57
end

section
set_option Elab.async false
set_option linter.all false
set_option autoImplicit false
set_option maxRecDepth 100000
namespace K57
open DL PySem L2 P_k57_whole_spread PyProof.Rows
theorem two_get (g : List Nat) {i : Nat} (h : i < 2 * g.length) : (g ++ g)[i]? = some (G g i) := by
  have hn : 0 < g.length := by omega
  have hm := Nat.mod_lt i hn
  unfold G
  rw [List.getD_eq_getElem?_getD, List.getElem?_eq_getElem hm]
  by_cases z : i < g.length
  · rw [List.getElem?_append_left z, List.getElem?_eq_getElem z]
    simp [Nat.mod_eq_of_lt z]
  · rw [List.getElem?_append_right (by omega)]
    have e : i % g.length = i - g.length := by
      rw [Nat.mod_eq_sub_mod (by omega), Nat.mod_eq_of_lt (by omega)]
    rw [List.getElem?_eq_getElem (by omega)]
    simp [e]
theorem win_cut (g : List Nat) (a : Nat) : ∀ w, a + w ≤ 2 * g.length → (((g ++ g).drop a).take w).sum = win g a w
  | 0, _ => by rw [win_zero]; rfl
  | w + 1, h => by
    rw [List.take_succ, List.sum_append, win_cut g a w (by omega), win_succ, List.getElem?_drop, two_get g (by omega)]
    simp
theorem gD_app (g : List Nat) (h : g.length ≤ 1000) : dAdd (gD g) (gD g) = some (gD (g ++ g)) := by
  unfold gD
  rw [List.map_append]
  exact mkLst_of (by rw [List.length_append, List.length_map]; omega)
theorem gD_cut (g : List Nat) (a b : Nat) : dCut (gD g) (some (a : Int)) (some (b : Int)) = some (gD ((g.take b).drop a)) := by
  have h := cutL_mid (g.map fun k : Nat => (k : Int)) a b
  rw [← List.map_take, ← List.map_drop] at h
  have e : ∀ xs : List Nat, encL (xs.map fun k : Nat => (k : Int)) = gD xs := fun xs => by
    unfold encL gD
    rw [List.map_map]
    rfl
  rw [e, e] at h
  exact h
theorem law_sum_ok (g : List Nat) (h1 : g.length ≤ 1000) (a w : Nat) (hw : a + w ≤ 2 * g.length) (n : Int) : f__law_sum [gD g, .int a, .int w] n = some (.ok (.int (win g a w : Nat)), n) := by
  have ad := gD_app g h1
  have ct := gD_cut (g ++ g) a (a + w)
  rw [List.drop_take, Nat.add_sub_cancel_left] at ct
  have s := gD_sum (((g ++ g).drop a).take w)
  rw [win_cut g a w hw] at s
  have c : ((a + w : Nat) : Int) = (a : Int) + w := by omega
  rw [c] at ct
  generalize gD (((g ++ g).drop a).take w) = Z2 at *
  generalize gD (g ++ g) = Z1 at *
  generalize gD g = Z at *
  generalize ((win g a w : Nat) : Int) = WW at *
  simp only [f__law_sum, g__law_sum]
  simp [ad, ct, s]
/-- the sums of all stretches of a width -/
def sums (g : List Nat) (w : Nat) : List Int := (List.range g.length).map fun a => ((win g a w : Nat) : Int)
theorem sums_ne {g : List Nat} (h : g ≠ []) (w : Nat) : sums g w ≠ [] := by
  intro e
  have q := congrArg List.length e
  unfold sums at q
  rw [List.length_map, List.length_range] at q
  exact h (List.length_eq_zero_iff.mp q)
theorem sums_mem {g : List Nat} {w : Nat} {x : Int} : x ∈ sums g w ↔ ∃ a, a < g.length ∧ x = ((win g a w : Nat) : Int) := by
  unfold sums
  rw [List.mem_map]
  constructor
  · rintro ⟨a, h, e⟩; exact ⟨a, List.mem_range.mp h, e.symm⟩
  · rintro ⟨a, h, e⟩; exact ⟨a, List.mem_range.mpr h, e.symm⟩
end K57
end

section
set_option Elab.async false
set_option linter.all false
set_option autoImplicit false
set_option maxRecDepth 100000
namespace K57
open DL PySem L2 P_k57_whole_spread PyProof.Rows
def minL (xs : List Int) : Int := match minI xs with
  | some m => m
  | none => 0
theorem minL_spec {xs : List Int} (h : xs ≠ []) : minL xs ∈ xs ∧ ∀ y ∈ xs, minL xs ≤ y := by
  cases xs with
  | nil => exact absurd rfl h
  | cons a r =>
    have e : minI (a :: r) = some (minL (a :: r)) := rfl
    exact ⟨(minI_ok e).2.1, (minI_ok e).2.2⟩
theorem minL_eq {xs : List Int} {m : Int} (h1 : m ∈ xs) (h2 : ∀ y ∈ xs, m ≤ y) : minL xs = m := by
  have hn : xs ≠ [] := fun e => by rw [e] at h1; simp at h1
  obtain ⟨a, b⟩ := minL_spec hn
  exact Int.le_antisymm (b m h1) (h2 _ a)
theorem dMinL_ok {ns : List Int} (h : ns ≠ []) : dMinL [.lst (ns.map D.int)] = some (.int (minL ns)) := by
  show (lstI [.lst (ns.map D.int)]).bind (fun ns => (minI ns).map D.int) = _
  have e : lstI [.lst (ns.map D.int)] = some ns := ints_int ns
  rw [e]
  cases ns with
  | nil => exact absurd rfl h
  | cons a r => rfl
def intsD (cs : List Int) : D := .lst (cs.map D.int)
theorem intsD_L (cs : List Int) : intsD cs = encL cs := rfl
theorem ixOf_mem {k : Int} : ∀ {js : List Int}, k ∈ js → ∃ i, ixOf k js = some i ∧ i < js.length ∧ js[i]? = some k
  | [], h => by simp at h
  | j :: js, h => by
    by_cases e : j = k
    · exact ⟨0, by unfold ixOf; rw [if_pos e], by simp, by rw [e]; rfl⟩
    · have hm : k ∈ js := (List.mem_cons.mp h).resolve_left fun z => e z.symm
      obtain ⟨i, h1, h2, h3⟩ := ixOf_mem hm
      exact ⟨i + 1, by unfold ixOf; rw [if_neg e, h1], by simp; omega, by simpa using h3⟩
theorem idx_ok {k : Int} {js : List Int} (h : k ∈ js) : ∃ i, dIdx (intsD js) (.int k) = some (.int (i : Nat)) ∧ i < js.length ∧ js[i]? = some k := by
  obtain ⟨i, h1, h2, h3⟩ := ixOf_mem h
  refine ⟨i, ?_, h2, h3⟩
  show (match dInts (js.map D.int) with | some js => (match ixOf k js with | some i => some (D.int i) | none => none) | none => none) = _
  rw [ints_int]
  show (match ixOf k js with | some i => some (D.int i) | none => none) = _
  rw [h1]
def maxL (xs : List Int) : Int := match maxI xs with
  | some m => m
  | none => 0
theorem maxL_mem {xs : List Int} (h : xs ≠ []) : maxL xs ∈ xs := by
  cases xs with
  | nil => exact absurd rfl h
  | cons a r =>
    have e : maxI (a :: r) = some (maxL (a :: r)) := rfl
    exact (maxI_ok e).2.1
theorem dMaxL_ok {ns : List Int} (h : ns ≠ []) : dMaxL [intsD ns] = some (.int (maxL ns)) := by
  show (lstI [.lst (ns.map D.int)]).bind (fun ns => (maxI ns).map D.int) = _
  have e : lstI [.lst (ns.map D.int)] = some ns := ints_int ns
  rw [e]
  cases ns with
  | nil => exact absurd rfl h
  | cons a r => rfl
theorem maxL_spec {xs : List Int} (h : xs ≠ []) : maxL xs ∈ xs ∧ ∀ y ∈ xs, y ≤ maxL xs := by
  cases xs with
  | nil => exact absurd rfl h
  | cons a r =>
    have e : maxI (a :: r) = some (maxL (a :: r)) := rfl
    obtain ⟨_, h1, h2⟩ := maxI_ok e
    exact ⟨h1, h2⟩
/-- the two ways to ask of a width: the greatest sum, the least one -/
theorem wide_iff {g : List Nat} (h : g ≠ []) (w : Nat) : maxL (sums g w) ≤ minL (sums g w) + 1 ↔ ∀ a, a < g.length → ∀ b, b < g.length → win g a w ≤ win g b w + 1 := by
  have m1 := maxL_spec (sums_ne h w)
  have m2 := minL_spec (sums_ne h w)
  constructor
  · intro q a ha b hb
    have k1 := m1.2 _ (sums_mem.mpr ⟨a, ha, rfl⟩)
    have k2 := m2.2 _ (sums_mem.mpr ⟨b, hb, rfl⟩)
    omega
  · intro q
    obtain ⟨a, ha, e1⟩ := sums_mem.mp m1.1
    obtain ⟨b, hb, e2⟩ := sums_mem.mp m2.1
    have := q a ha b hb
    omega
end K57
end

section
set_option Elab.async false
set_option linter.all false
set_option autoImplicit false
set_option maxRecDepth 100000
namespace K57
open DL PySem L2 P_k57_whole_spread PyProof.Rows
theorem forD_chkM {α : Type} (h : α → D) (g : GX) (b : SX) (P : α → Bool) (I : DL.Env → Prop) (n : Int) : ∀ (w : List α), (∀ x ∈ w, ∀ ρ, I ρ → ∃ ρ1, g (h x) ρ = some ρ1 ∧ (P x = true → ∃ ρ2, b ρ1 n = some (.ok (.nx ρ2), n) ∧ I ρ2) ∧ (P x = false → b ρ1 n = some (.ok (.ret (.bl false)), n))) →
    ∀ ρ, I ρ → (w.all P = true → ∃ ρ', forD g b (w.map h) ρ n = some (.ok (.nx ρ'), n) ∧ I ρ') ∧ (w.all P = false → forD g b (w.map h) ρ n = some (.ok (.ret (.bl false)), n))
  | [], _, ρ, hI => ⟨fun _ => ⟨ρ, rfl, hI⟩, fun e => by simp at e⟩
  | x :: w, hb, ρ, hI => by
    obtain ⟨ρ1, h1, h2, h3⟩ := hb x List.mem_cons_self ρ hI
    rw [List.map_cons, forD_cons]
    cases hp : P x with
    | true =>
      obtain ⟨ρ2, h4, h5⟩ := h2 hp
      obtain ⟨k1, k2⟩ := forD_chkM h g b P I n w (fun x hx => hb x (List.mem_cons_of_mem _ hx)) ρ2 h5
      rw [List.all_cons, hp, Bool.true_and]
      refine ⟨fun e => ?_, fun e => ?_⟩
      · obtain ⟨ρ', h6, h7⟩ := k1 e
        exact ⟨ρ', by simp [h1, h4, h6], h7⟩
      · simp [h1, h4, k2 e]
    | false =>
      rw [List.all_cons, hp, Bool.false_and]
      exact ⟨(fun e => by cases e), (fun _ => by simp [h1, h3 hp])⟩
theorem sum_runG {α : Type} (h : α → D) (v : Nat) (f : FX) (F : α → Int) (it : IX) (ρ : DL.Env) (rs : List α) (hl : rs.length ≤ 1000) (hf : ∀ r ∈ rs, ∀ n, f [h r] n = some (.ok (.int (F r)), n)) (n : Int) (hi : it ρ n = some (.ok (rs.map h), n)) (hv : ∀ d : D, eVar v ((hide (wipeD ρ [v])).set v (.val d)) n = some (.ok d, n)) :
    eB dSum (eCons (eComp [v] (gV v) it tYesD (eCall f (eCons (eVar v) eNil))) eNil) ρ n = some (.ok (.int (rs.map F).sum), n) := by
  have c := comp_all h (compB [v] (gV v) tYesD (eCall f (eCons (eVar v) eNil)) ρ) (fun r => D.int (F r)) n rs fun r hr => by
    have e := hf r hr n
    have x := hv (h r)
    rw [compB_ap, gV_ap, bind_ap, opt_some, bindR_ok]
    generalize (h r : D) = Z at *
    generalize (hide (wipeD ρ [v])).set v (.val Z) = ρ1 at *
    simp [x, e]
  have z : (rs.map fun r => D.int (F r)).length ≤ 16777216 := by rw [List.length_map]; omega
  have ml := mkLst_of z
  have s := sum_map F rs
  generalize (rs.map fun r => D.int (F r)) = B at *
  generalize (rs.map h) = A at *
  generalize (rs.map F).sum = S at *
  have : eComp [v] (gV v) it tYesD (eCall f (eCons (eVar v) eNil)) ρ n = some (.ok (.lst B), n) := by
    rw [eComp_ap, bind_ap, hi, bindR_ok, bind_ap, calm_ap, c, calmR_ok, bindR_ok, ml, opt_some]
  generalize eComp [v] (gV v) it tYesD (eCall f (eCons (eVar v) eNil)) = CC at *
  simp [this, s]
theorem all_runG {α : Type} (h : α → D) (v : Nat) (e0 : EX) (F : α → Bool) (it : IX) (ρ : DL.Env) (rs : List α) (hl : rs.length ≤ 1000) (n : Int) (hf : ∀ r ∈ rs, e0 ((hide (wipeD ρ [v])).set v (.val (h r))) n = some (.ok (.bl (F r)), n)) (hi : it ρ n = some (.ok (rs.map h), n)) :
    eB dAll (eCons (eComp [v] (gV v) it tYesD e0) eNil) ρ n = some (.ok (.bl (rs.all F)), n) := by
  have c := comp_all h (compB [v] (gV v) tYesD e0 ρ) (fun r => D.bl (F r)) n rs fun r hr => by
    have e := hf r hr
    rw [compB_ap, gV_ap, bind_ap, opt_some, bindR_ok]
    generalize (hide (wipeD ρ [v])).set v (.val (h r)) = ρ1 at *
    simp [e]
  have z : (rs.map fun r => D.bl (F r)).length ≤ 16777216 := by rw [List.length_map]; omega
  have ml := mkLst_of z
  have s := all_map F rs
  generalize (rs.map fun r => D.bl (F r)) = B at *
  generalize (rs.map h) = A at *
  generalize rs.all F = S at *
  have : eComp [v] (gV v) it tYesD e0 ρ n = some (.ok (.lst B), n) := by
    rw [eComp_ap, bind_ap, hi, bindR_ok, bind_ap, calm_ap, c, calmR_ok, bindR_ok, ml, opt_some]
  generalize eComp [v] (gV v) it tYesD e0 = CC at *
  simp [this, s]
/-! ### the law's trial of all widths -/
def okw (g : List Nat) (w : Nat) : Bool := decide (maxL (sums g w) ≤ minL (sums g w) + 1)
def evB (g : List Nat) : Bool := ((List.range (g.length - 1)).map (1 + ·)).all (okw g)
theorem evB_iff {g : List Nat} (h : g ≠ []) : evB g = true ↔ Even g := by
  unfold evB okw
  rw [List.all_eq_true]
  constructor
  · intro q w h1 h2
    have := q w (List.mem_map.mpr ⟨w - 1, List.mem_range.mpr (by omega), by omega⟩)
    exact (wide_iff h w).mp (of_decide_eq_true this)
  · intro q w hw
    obtain ⟨i, hi, rfl⟩ := List.mem_map.mp hw
    rw [List.mem_range] at hi
    exact decide_eq_true ((wide_iff h (1 + i)).mpr (q (1 + i) (by omega) (by omega)))
def LEc : EX := (eComp [4] (gV 4) (iRng1D (eCons (eVar 1) eNil)) tYesD (eB dSum (eCons (eCut (e2 dAdd (eVar 0) (eVar 0)) (oSome (eVar 4)) (oSome (e2 dAdd (eVar 4) (eVar 2)))) eNil)))
def LE1 : SX := (sAsg (gV 3) LEc)
def LE2 : SX := (sIf (tB (e2 dGt (eB dMaxL (eCons (eVar 3) eNil)) (e2 dAdd (eB dMinL (eCons (eVar 3) eNil)) (eC (.int 1))))) (sRet (eC (.bl false))) sNx)
def LEb : SX := (sSeq LE1 LE2)
def LEf : SX := (sFor (gV 2) (iRng2D (eCons (eC (.int 1)) (eCons (eVar 1) eNil))) LEb)
def LEL : SX := (sSeq (sAsg (gV 1) (eB dLen (eCons (eVar 0) eNil))) (sSeq LEf (sRet (eC (.bl true)))))
theorem LEL_eq : g__law_even = LEL := rfl
def EE (g : List Nat) (s2 s3 : Sl) : DL.Env := [.val (gD g), .val (.int g.length), s2, s3, .no]
theorem le_run (g : List Nat) (h0 : g ≠ []) (hl : g.length ≤ 60) (w : Nat) (hw : w ≤ g.length) (s3 : Sl) (n : Int) :
    LEb (EE g (.val (.int w)) s3) n = selB (okw g w) (some (.ok (.nx (EE g (.val (.int w)) (.val (intsD (sums g w))))), n)) (some (.ok (.ret (.bl false)), n)) := by
  have c := comp_all (fun a : Nat => D.int a) (compB [4] (gV 4) tYesD (eB dSum (eCons (eCut (e2 dAdd (eVar 0) (eVar 0)) (oSome (eVar 4)) (oSome (e2 dAdd (eVar 4) (eVar 2)))) eNil)) (EE g (.val (.int w)) s3)) (fun a => .int (win g a w : Nat)) n (List.range g.length) fun a ha => by
    have ha := List.mem_range.mp ha
    have ad := gD_app g (by omega)
    have ct := gD_cut (g ++ g) a (a + w)
    rw [List.drop_take, Nat.add_sub_cancel_left] at ct
    have s := gD_sum (((g ++ g).drop a).take w)
    rw [win_cut g a w (by omega)] at s
    have cst : ((a + w : Nat) : Int) = (a : Int) + w := by omega
    rw [cst] at ct
    have v0 : eVar 0 ((hide (wipeD (EE g (.val (.int w)) s3) [4])).set 4 (.val (.int a))) n = some (.ok (gD g), n) := evar_get (by
      rw [List.getElem?_set_ne (by omega), wipeD_cons, wipeD_nil]
      cases s3 <;> rfl)
    have v2 : eVar 2 ((hide (wipeD (EE g (.val (.int w)) s3) [4])).set 4 (.val (.int a))) n = some (.ok (.int w), n) := evar_get (by
      rw [List.getElem?_set_ne (by omega), wipeD_cons, wipeD_nil]
      cases s3 <;> rfl)
    have v4 := evar_hs (v := 4) (ρ := EE g (.val (.int w)) s3) (d := .int a) (n := n) (by show 4 < 5; omega)
    rw [compB_ap, gV_ap, bind_ap, opt_some, bindR_ok]
    generalize (hide (wipeD (EE g (.val (.int w)) s3) [4])).set 4 (.val (.int a)) = ρ1 at *
    generalize gD (((g ++ g).drop a).take w) = Z2 at *
    generalize gD (g ++ g) = Z1 at *
    generalize gD g = Z at *
    generalize ((win g a w : Nat) : Int) = WW at *
    simp [v0, v2, v4, ad, ct, s]
  have z := z_small (List.range g.length) (fun a : Nat => D.int (win g a w : Nat)) (by rw [List.length_range]; omega)
  have ml := mkLst_of z
  have e : D.lst ((List.range g.length).map fun a : Nat => D.int (win g a w : Nat)) = intsD (sums g w) := by
    unfold intsD sums
    rw [List.map_map]
    rfl
  rw [e] at ml
  have r := rng1 g.length (by omega)
  have f1 : LE1 (EE g (.val (.int w)) s3) n = some (.ok (.nx (EE g (.val (.int w)) (.val (intsD (sums g w))))), n) := by
    generalize ((List.range g.length).map fun a : Nat => D.int (win g a w : Nat)) = B at *
    generalize ((List.range g.length).map fun i : Nat => D.int i) = A at *
    generalize intsD (sums g w) = S at *
    unfold LE1
    rw [sAsg_ap, bind_ap]
    have cc : LEc (EE g (.val (.int w)) s3) n = some (.ok S, n) := by
      unfold LEc
      rw [eComp_ap, bind_ap]
      have i0 : iRng1D (eCons (eVar 1) eNil) (EE g (.val (.int w)) s3) n = some (.ok A, n) := by
        unfold EE
        generalize gD g = Z at *
        simp [r]
      rw [i0, bindR_ok, bind_ap, calm_ap, c, calmR_ok, bindR_ok, ml, opt_some]
    rw [cc, bindR_ok, bind_ap, gV_ap, opt_some, bindR_ok, pure_ap]
    rfl
  refine seq_go f1 ?_
  have mx := dMaxL_ok (sums_ne h0 w)
  have mn : dMinL [intsD (sums g w)] = some (.int (minL (sums g w))) := dMinL_ok (sums_ne h0 w)
  unfold okw
  by_cases q : maxL (sums g w) ≤ minL (sums g w) + 1
  · rw [decide_eq_true q, selB_true]
    have q2 : ¬ minL (sums g w) + 1 < maxL (sums g w) := by omega
    unfold EE
    generalize intsD (sums g w) = S at *
    generalize maxL (sums g w) = a at *
    generalize minL (sums g w) = b at *
    generalize gD g = Z at *
    unfold LE2
    simp [mx, mn, q2]
  · rw [decide_eq_false q, selB_false]
    have q2 : minL (sums g w) + 1 < maxL (sums g w) := by omega
    unfold EE
    generalize intsD (sums g w) = S at *
    generalize maxL (sums g w) = a at *
    generalize minL (sums g w) = b at *
    generalize gD g = Z at *
    unfold LE2
    simp [mx, mn, q2]
end K57
end

section
set_option Elab.async false
set_option linter.all false
set_option autoImplicit false
set_option maxRecDepth 100000
namespace K57
open DL PySem L2 P_k57_whole_spread PyProof.Rows
theorem rng_w (k : Nat) (h1 : 1 ≤ k) (h2 : k ≤ 1000) : dRng2 [.int 1, .int (k : Int)] = some (((List.range (k - 1)).map (1 + ·)).map fun w : Nat => D.int w) := by
  have r := dRng2_ok (i := 1) (j := (k : Int)) (by omega) (by omega) (by omega) (by omega)
  have q := rng_nat2 1 k
  have one : ((1 : Nat) : Int) = 1 := rfl
  rw [one] at q
  rw [r, q, List.map_map]
  rfl
theorem law_even_ok (g : List Nat) (h0 : g ≠ []) (hl : g.length ≤ 60) (n : Int) : f__law_even [gD g] n = some (.ok (.bl (evB g)), n) := by
  have hn : 0 < g.length := List.length_pos_iff.mpr h0
  have l := gD_len g
  have f0 : (sAsg (gV 1) (eB dLen (eCons (eVar 0) eNil))) [.val (gD g), .no, .no, .no, .no] n = some (.ok (.nx (EE g .no .no)), n) := by
    unfold EE
    generalize gD g = Z at *
    simp [l]
  have lp := forD_chkM (fun w : Nat => D.int w) (gV 2) LEb (okw g) (fun ρ => ∃ s2 s3, ρ = EE g s2 s3) n ((List.range (g.length - 1)).map (1 + ·)) (fun w hw ρ ⟨s2, s3, hρ⟩ => by
    subst hρ
    obtain ⟨i, hi, rfl⟩ := List.mem_map.mp hw
    rw [List.mem_range] at hi
    have k := le_run g h0 hl (1 + i) (by omega) s3 n
    refine ⟨EE g (.val (.int ((1 + i : Nat) : Int))) s3, rfl, fun z => ⟨EE g (.val (.int ((1 + i : Nat) : Int))) (.val (intsD (sums g (1 + i)))), ?_, _, _, rfl⟩, fun z => ?_⟩
    · rw [k, z, selB_true]
    · rw [k, z, selB_false]) (EE g .no .no) ⟨_, _, rfl⟩
  have r := rng_w g.length (by omega) (by omega)
  have F : LEf (EE g .no .no) n = forD (gV 2) LEb (((List.range (g.length - 1)).map (1 + ·)).map fun w : Nat => D.int w) (EE g .no .no) n := by
    have i0 : iRng2D (eCons (eC (.int 1)) (eCons (eVar 1) eNil)) (EE g .no .no) n = some (.ok (((List.range (g.length - 1)).map (1 + ·)).map fun w : Nat => D.int w), n) := by
      unfold EE
      generalize (((List.range (g.length - 1)).map (1 + ·)).map fun w : Nat => D.int w) = A at *
      generalize gD g = Z at *
      simp [r]
    unfold LEf
    rw [sFor_ap, bind_ap, i0, bindR_ok]
  rw [← F] at lp
  have sh : f__law_even [gD g] n = bindR (LEL ([gD g].map Sl.val ++ List.replicate (5 - 1) Sl.no) n) runK := by
    unfold f__law_even
    rw [runD_ap, bind_ap, LEL_eq]
  have arg : ([gD g].map Sl.val ++ List.replicate (5 - 1) Sl.no) = [.val (gD g), .no, .no, .no, .no] := rfl
  rw [sh, arg]
  have ev : ((List.range (g.length - 1)).map (1 + ·)).all (okw g) = evB g := rfl
  rw [ev] at lp
  cases q : evB g with
  | true =>
    obtain ⟨ρ', k1, _⟩ := lp.1 q
    have go : LEL [.val (gD g), .no, .no, .no, .no] n = some (.ok (.ret (.bl true)), n) := seq_go f0 (seq_go k1 rfl)
    rw [go]
    rfl
  | false =>
    have go : LEL [.val (gD g), .no, .no, .no, .no] n = some (.ok (.ret (.bl false)), n) := seq_go f0 (by rw [sSeq_ap, bind_ap, lp.2 q, bindR_ok, seqK_ret, pure_ap])
    rw [go]
    rfl
end K57
end

section
set_option Elab.async false
set_option linter.all false
set_option autoImplicit false
set_option maxRecDepth 100000
namespace K57
open DL PySem L2 P_k57_whole_spread PyProof.Rows
theorem forD_first {α : Type} (h : α → D) (g : GX) (b : SX) (P : α → Bool) (r : α → D) (I : DL.Env → Prop) (n : Int) : ∀ (w : List α), (∀ x ∈ w, ∀ ρ, I ρ → ∃ ρ1, g (h x) ρ = some ρ1 ∧ (P x = true → ∃ ρ2, b ρ1 n = some (.ok (.nx ρ2), n) ∧ I ρ2) ∧ (P x = false → b ρ1 n = some (.ok (.ret (r x)), n))) →
    ∀ ρ, I ρ → (w.all P = true → ∃ ρ', forD g b (w.map h) ρ n = some (.ok (.nx ρ'), n) ∧ I ρ') ∧ (w.all P = false → ∃ x ∈ w, P x = false ∧ forD g b (w.map h) ρ n = some (.ok (.ret (r x)), n))
  | [], _, ρ, hI => ⟨fun _ => ⟨ρ, rfl, hI⟩, fun e => by simp at e⟩
  | x :: w, hb, ρ, hI => by
    obtain ⟨ρ1, h1, h2, h3⟩ := hb x List.mem_cons_self ρ hI
    rw [List.map_cons, forD_cons]
    cases hp : P x with
    | true =>
      obtain ⟨ρ2, h4, h5⟩ := h2 hp
      obtain ⟨k1, k2⟩ := forD_first h g b P r I n w (fun x hx => hb x (List.mem_cons_of_mem _ hx)) ρ2 h5
      rw [List.all_cons, hp, Bool.true_and]
      refine ⟨fun e => ?_, fun e => ?_⟩
      · obtain ⟨ρ', h6, h7⟩ := k1 e
        exact ⟨ρ', by simp [h1, h4, h6], h7⟩
      · obtain ⟨y, y1, y2, y3⟩ := k2 e
        exact ⟨y, List.mem_cons_of_mem _ y1, y2, by simp [h1, h4, y3]⟩
    | false =>
      rw [List.all_cons, hp, Bool.false_and]
      exact ⟨(fun e => by cases e), (fun _ => ⟨x, List.mem_cons_self, hp, by simp [h1, h3 hp]⟩)⟩
/-- the first place of a greatest, a least sum -/
def hiAt (g : List Nat) (w : Nat) : Nat := (ixOf (maxL (sums g w)) (sums g w)).getD 0
def loAt (g : List Nat) (w : Nat) : Nat := (ixOf (minL (sums g w)) (sums g w)).getD 0
theorem sums_get {g : List Nat} {w i : Nat} {x : Int} (h : (sums g w)[i]? = some x) : i < g.length ∧ x = ((win g i w : Nat) : Int) := by
  have hi := (List.getElem?_eq_some_iff.mp h).1
  unfold sums at h hi
  rw [List.length_map, List.length_range] at hi
  rw [List.getElem?_map, List.getElem?_range hi] at h
  exact ⟨hi, (Option.some.inj h).symm⟩
theorem idx_at {k : Int} {js : List Int} (h : k ∈ js) : dIdx (intsD js) (.int k) = some (.int ((ixOf k js).getD 0 : Nat)) ∧ js[(ixOf k js).getD 0]? = some k := by
  obtain ⟨i, h1, h2, h3⟩ := ixOf_mem h
  rw [h1]
  refine ⟨?_, h3⟩
  show (match dInts (js.map D.int) with | some js => (match ixOf k js with | some i => some (D.int i) | none => none) | none => none) = _
  rw [ints_int]
  show (match ixOf k js with | some i => some (D.int i) | none => none) = _
  rw [h1]
  rfl
theorem hi_ok {g : List Nat} (h : g ≠ []) (w : Nat) : hiAt g w < g.length ∧ maxL (sums g w) = ((win g (hiAt g w) w : Nat) : Int) := sums_get (idx_at (maxL_spec (sums_ne h w)).1).2
theorem lo_ok {g : List Nat} (h : g ≠ []) (w : Nat) : loAt g w < g.length ∧ minL (sums g w) = ((win g (loAt g w) w : Nat) : Int) := sums_get (idx_at (minL_spec (sums_ne h w)).1).2
end K57
end

section
set_option Elab.async false
set_option linter.all false
set_option autoImplicit false
set_option maxRecDepth 100000
namespace K57
open DL PySem L2 P_k57_whole_spread PyProof.Rows
def JSc : EX := (eComp [5] (gV 5) (iRng1D (eCons (eB dLen (eCons (eVar 0) eNil)) eNil)) tYesD (eCall (f_sum_from) (eCons (eVar 0) (eCons (eVar 5) (eCons (eVar 1) eNil)))))
def JS1 : SX := (sAsg (gV 2) JSc)
def JS2 : SX := (sIf (tB (e2 dGt (e2 dSub (eB dMaxL (eCons (eVar 2) eNil)) (eB dMinL (eCons (eVar 2) eNil))) (eC (.int 1)))) (sRet (eMake 6 (f_Uneven___init__) (eCons (eIdx (eVar 2) (eB dMaxL (eCons (eVar 2) eNil))) (eCons (eIdx (eVar 2) (eB dMinL (eCons (eVar 2) eNil))) (eCons (eVar 1) eNil))))) sNx)
def JSb : SX := (sSeq JS1 JS2)
def JE (g : List Nat) (s1 s2 s3 s4 : Sl) : DL.Env := [.val (gD g), s1, s2, s3, s4, .no]
theorem js_run (g : List Nat) (h0 : g ≠ []) (hl : g.length ≤ 60) (w : Nat) (hw : w ≤ g.length) (s2 : Sl) (n : Int) :
    JSb (JE g (.val (.int w)) s2 .no .no) n = selB (okw g w) (some (.ok (.nx (JE g (.val (.int w)) (.val (intsD (sums g w))) .no .no)), n)) (some (.ok (.ret (unD (hiAt g w) (loAt g w) w)), n)) := by
  have c := comp_all (fun a : Nat => D.int a) (compB [5] (gV 5) tYesD (eCall (f_sum_from) (eCons (eVar 0) (eCons (eVar 5) (eCons (eVar 1) eNil)))) (JE g (.val (.int w)) s2 .no .no)) (fun a => .int (win g a w : Nat)) n (List.range g.length) fun a ha => by
    have ha := List.mem_range.mp ha
    have s := sum_from_ok g h0 a w (by omega) (by omega) n
    have v0 : eVar 0 ((hide (wipeD (JE g (.val (.int w)) s2 .no .no) [5])).set 5 (.val (.int a))) n = some (.ok (gD g), n) := evar_get (by
      rw [List.getElem?_set_ne (by omega), wipeD_cons, wipeD_nil]
      cases s2 <;> rfl)
    have v1 : eVar 1 ((hide (wipeD (JE g (.val (.int w)) s2 .no .no) [5])).set 5 (.val (.int a))) n = some (.ok (.int w), n) := evar_get (by
      rw [List.getElem?_set_ne (by omega), wipeD_cons, wipeD_nil]
      cases s2 <;> rfl)
    have v5 := evar_hs (v := 5) (ρ := JE g (.val (.int w)) s2 .no .no) (d := .int a) (n := n) (by show 5 < 6; omega)
    rw [compB_ap, gV_ap, bind_ap, opt_some, bindR_ok]
    generalize (hide (wipeD (JE g (.val (.int w)) s2 .no .no) [5])).set 5 (.val (.int a)) = ρ1 at *
    generalize gD g = Z at *
    generalize ((win g a w : Nat) : Int) = WW at *
    simp [v0, v1, v5, s]
  have z := z_small (List.range g.length) (fun a : Nat => D.int (win g a w : Nat)) (by rw [List.length_range]; omega)
  have ml := mkLst_of z
  have e : D.lst ((List.range g.length).map fun a : Nat => D.int (win g a w : Nat)) = intsD (sums g w) := by
    unfold intsD sums
    rw [List.map_map]
    rfl
  rw [e] at ml
  have r := rng1 g.length (by omega)
  have l := gD_len g
  have f1 : JS1 (JE g (.val (.int w)) s2 .no .no) n = some (.ok (.nx (JE g (.val (.int w)) (.val (intsD (sums g w))) .no .no)), n) := by
    generalize ((List.range g.length).map fun a : Nat => D.int (win g a w : Nat)) = B at *
    generalize ((List.range g.length).map fun i : Nat => D.int i) = A at *
    generalize intsD (sums g w) = S at *
    unfold JS1
    rw [sAsg_ap, bind_ap]
    have cc : JSc (JE g (.val (.int w)) s2 .no .no) n = some (.ok S, n) := by
      unfold JSc
      rw [eComp_ap, bind_ap]
      have i0 : iRng1D (eCons (eB dLen (eCons (eVar 0) eNil)) eNil) (JE g (.val (.int w)) s2 .no .no) n = some (.ok A, n) := by
        unfold JE
        generalize gD g = Z at *
        simp [l, r]
      rw [i0, bindR_ok, bind_ap, calm_ap, c, calmR_ok, bindR_ok, ml, opt_some]
    rw [cc, bindR_ok, bind_ap, gV_ap, opt_some, bindR_ok, pure_ap]
    rfl
  refine seq_go f1 ?_
  have mx := dMaxL_ok (sums_ne h0 w)
  have mn : dMinL [intsD (sums g w)] = some (.int (minL (sums g w))) := dMinL_ok (sums_ne h0 w)
  have x1 : dIdx (intsD (sums g w)) (.int (maxL (sums g w))) = some (.int (hiAt g w : Nat)) := (idx_at (maxL_spec (sums_ne h0 w)).1).1
  have x2 : dIdx (intsD (sums g w)) (.int (minL (sums g w))) = some (.int (loAt g w : Nat)) := (idx_at (minL_spec (sums_ne h0 w)).1).1
  have il : isLst (intsD (sums g w)) = some () := rfl
  have ui := un_init (hiAt g w : Nat) (loAt g w : Nat) w n
  have mk : makeK 6 (unD (hiAt g w : Nat) (loAt g w : Nat) w) = M.pure (unD (hiAt g w : Nat) (loAt g w : Nat) w) := makeK_obj _ _ _
  unfold okw
  by_cases q : maxL (sums g w) ≤ minL (sums g w) + 1
  · rw [decide_eq_true q, selB_true]
    have q2 : ¬ 1 < maxL (sums g w) - minL (sums g w) := by omega
    unfold JE
    generalize intsD (sums g w) = S at *
    generalize maxL (sums g w) = a at *
    generalize minL (sums g w) = b at *
    generalize gD g = Z at *
    unfold JS2
    simp [mx, mn, q2]
  · rw [decide_eq_false q, selB_false]
    have q2 : 1 < maxL (sums g w) - minL (sums g w) := by omega
    unfold JE
    generalize unD (hiAt g w : Nat) (loAt g w : Nat) w = U at *
    generalize intsD (sums g w) = S at *
    generalize maxL (sums g w) = a at *
    generalize minL (sums g w) = b at *
    generalize ((hiAt g w : Nat) : Int) = ha at *
    generalize ((loAt g w : Nat) : Int) = la at *
    generalize gD g = Z at *
    unfold JS2
    simp [mx, mn, q2, il, x1, x2, ui, mk]
end K57
end

section
set_option Elab.async false
set_option linter.all false
set_option autoImplicit false
set_option maxRecDepth 100000
namespace K57
open DL PySem L2 P_k57_whole_spread PyProof.Rows
theorem rot_get (T : List Nat) {s a : Nat} (hs : s < T.length) (ha : a < T.length) : (T.drop s ++ T.take s)[a]? = some (T.getD ((s + a) % T.length) 0) := by
  rw [List.getD_eq_getElem?_getD]
  by_cases z : s + a < T.length
  · rw [List.getElem?_append_left (by rw [List.length_drop]; omega), List.getElem?_drop, Nat.mod_eq_of_lt z, List.getElem?_eq_getElem z]
    rfl
  · rw [List.getElem?_append_right (by rw [List.length_drop]; omega), List.length_drop, List.getElem?_take, if_pos (by omega)]
    have e : (s + a) % T.length = a - (T.length - s) := by
      rw [Nat.mod_eq_sub_mod (by omega), Nat.mod_eq_of_lt (by omega)]
      omega
    rw [e, List.getElem?_eq_getElem (by omega)]
    rfl
theorem rot_iff {T g : List Nat} (hl : T.length = g.length) {s : Nat} (hs : s < T.length) : T.drop s ++ T.take s = g ↔ ∀ a, a < g.length → T.getD ((s + a) % g.length) 0 = g.getD a 0 := by
  constructor
  · intro e a ha
    have k := rot_get T hs (a := a) (by omega)
    rw [e, List.getElem?_eq_getElem ha, hl] at k
    rw [List.getD_eq_getElem?_getD (l := g), List.getElem?_eq_getElem ha]
    exact (Option.some.inj k).symm
  · intro h
    apply List.ext_getElem?
    intro a
    by_cases ha : a < g.length
    · rw [rot_get T hs (by omega), hl, h a ha, List.getD_eq_getElem?_getD, List.getElem?_eq_getElem ha]
      rfl
    · rw [List.getElem?_eq_none (by rw [List.length_append, List.length_drop, List.length_take]; omega), List.getElem?_eq_none (by omega)]
/-- a search upwards ends at the first place -/
theorem first_at (p : Nat → Bool) : ∀ (N : Nat), (∃ s, s < N ∧ p s = true) → ∃ s, s < N ∧ p s = true ∧ ∀ t, t < s → p t = false := by
  intro N h
  obtain ⟨s, h1, h2⟩ := h
  induction s using Nat.strongRecOn with
  | _ s ih =>
    by_cases q : ∃ t, t < s ∧ p t = true
    · obtain ⟨t, t1, t2⟩ := q
      exact ih t t1 (by omega) t2
    · refine ⟨s, h1, h2, fun t ht => ?_⟩
      cases e : p t with
      | false => rfl
      | true => exact absurd ⟨t, ht, e⟩ q
/-- the first turn of the spread gaps that gives an even ring -/
theorem shift_at {g : List Nat} (h0 : g ≠ []) (he : Even g) : ∃ s, s < g.length ∧ (spr g.sum g.length).drop s ++ (spr g.sum g.length).take s = g ∧ ∀ t, t < s → ¬ ((spr g.sum g.length).drop t ++ (spr g.sum g.length).take t = g) := by
  obtain ⟨sh, h1, h2⟩ := even_turn h0 he
  have hl := spr_len g.sum g.length
  obtain ⟨s, k1, k2, k3⟩ := first_at (fun t => decide ((spr g.sum g.length).drop t ++ (spr g.sum g.length).take t = g)) g.length ⟨sh, h1, decide_eq_true ((rot_iff hl (by omega)).mpr h2)⟩
  exact ⟨s, k1, of_decide_eq_true k2, fun t ht => of_decide_eq_false (k3 t ht)⟩
end K57
end

section
set_option Elab.async false
set_option linter.all false
set_option autoImplicit false
set_option maxRecDepth 100000
namespace K57
open DL PySem L2 P_k57_whole_spread PyProof.Rows
theorem gD_from (g : List Nat) (a : Nat) : dCut (gD g) (some (a : Int)) none = some (gD (g.drop a)) := by
  have h := cutL_from (g.map fun k : Nat => (k : Int)) a
  rw [← List.map_drop] at h
  have e : ∀ xs : List Nat, encL (xs.map fun k : Nat => (k : Int)) = gD xs := fun xs => by
    unfold encL gD
    rw [List.map_map]
    rfl
  rw [e, e] at h
  exact h
theorem gD_to (g : List Nat) (b : Nat) : dCut (gD g) none (some (b : Int)) = some (gD (g.take b)) := by
  have h := gD_cut g 0 b
  unfold gD dCut at h ⊢
  exact h
theorem gD_app2 (g k : List Nat) (h : g.length + k.length ≤ 1000) : dAdd (gD g) (gD k) = some (gD (g ++ k)) := by
  unfold gD
  rw [List.map_append]
  exact mkLst_of (by rw [List.length_append, List.length_map, List.length_map]; omega)
theorem gD_ne (g k : List Nat) : dNe (gD g) (gD k) = some (.bl (!decide (g = k))) := by
  have h := dNe_L (g.map fun k : Nat => (k : Int)) (k.map fun k : Nat => (k : Int))
  have e : ∀ xs : List Nat, encL (xs.map fun k : Nat => (k : Int)) = gD xs := fun xs => by
    unfold encL gD
    rw [List.map_map]
    rfl
  rw [e, e] at h
  rw [h]
  have : decide (g.map (fun k : Nat => (k : Int)) = k.map fun k : Nat => (k : Int)) = decide (g = k) := decide_eq_decide.mpr ⟨fun q => by
    have := congrArg (List.map Int.toNat) q
    rw [List.map_map, List.map_map] at this
    have f : ∀ xs : List Nat, xs.map (Int.toNat ∘ fun k : Nat => (k : Int)) = xs := fun xs => by
      induction xs with
      | nil => rfl
      | cons x xs ih => rw [List.map_cons, ih]; rfl
    rw [f, f] at this
    exact this, fun q => by rw [q]⟩
  rw [this]
def JWt : TX := (tB (e2 dNe (e2 dAdd (eCut (eVar 3) (oSome (eVar 4)) oNone) (eCut (eVar 3) oNone (oSome (eVar 4)))) (eVar 0)))
def JWb : SX := (sAug 4 (dI (fun _ _ => true) fun a b => .int (a + b)) (eC (.int 1)))
theorem jwt_run (g T : List Nat) (hT : T.length ≤ 100) (s1 s2 : Sl) (s : Nat) (n : Int) : JWt (JE g s1 s2 (.val (gD T)) (.val (.int s))) n = some (.ok (!decide (T.drop s ++ T.take s = g)), n) := by
  have c1 := gD_from T s
  have c2 := gD_to T s
  have ad := gD_app2 (T.drop s) (T.take s) (by rw [List.length_drop, List.length_take]; omega)
  have ne := gD_ne (T.drop s ++ T.take s) g
  unfold JE
  generalize decide (T.drop s ++ T.take s = g) = b at *
  generalize gD (T.drop s ++ T.take s) = Z3 at *
  generalize gD (T.drop s) = Z1 at *
  generalize gD (T.take s) = Z2 at *
  generalize gD T = Z at *
  generalize gD g = Y at *
  unfold JWt
  simp [c1, c2, ad, ne]
theorem jw_loop (g T : List Nat) (hT : T.length ≤ 100) (s1 s2 : Sl) (n : Int) (S : Nat) (hS : T.drop S ++ T.take S = g) (hl : ∀ t, t < S → ¬ (T.drop t ++ T.take t = g)) : ∀ (d s fuel : Nat), s + d = S → d < fuel → whileD JWt JWb fuel (JE g s1 s2 (.val (gD T)) (.val (.int s))) n = some (.ok (.nx (JE g s1 s2 (.val (gD T)) (.val (.int S)))), n)
  | 0, s, f + 1, h, _ => by
    have e : s = S := by omega
    subst e
    have t := jwt_run g T hT s1 s2 s n
    rw [decide_eq_true hS] at t
    exact whileD_stop t
  | d + 1, s, f + 1, h, hf => by
    have t := jwt_run g T hT s1 s2 s n
    rw [decide_eq_false (hl s (by omega))] at t
    have b : JWb (JE g s1 s2 (.val (gD T)) (.val (.int s))) n = some (.ok (.nx (JE g s1 s2 (.val (gD T)) (.val (.int ((s + 1 : Nat) : Int))))), n) := rfl
    rw [whileD_step t b]
    exact jw_loop g T hT s1 s2 n S hS hl d (s + 1) f (by omega) (by omega)
end K57
end

section
set_option Elab.async false
set_option linter.all false
set_option autoImplicit false
set_option maxRecDepth 100000
namespace K57
open DL PySem L2 P_k57_whole_spread PyProof.Rows
def JF : SX := (sFor (gV 1) (iRng2D (eCons (eC (.int 1)) (eCons (eB dLen (eCons (eVar 0) eNil)) eNil))) JSb)
def J0 : SX := (sExp (eCall (f_check_gaps) (eCons (eVar 0) eNil)))
def J3 : SX := (sAsg (gV 3) (eCall (f_spread_again) (eCons (eVar 0) eNil)))
def J6 : SX := (sRet (eMake 5 (f_Even___init__) (eCons (eVar 4) eNil)))
def JL : SX := (sSeq J0 (sSeq JF (sSeq J3 (sSeq (sAsg (gV 4) (eC (.int 0))) (sSeq (sWhile (fun _ => 1000000) JWt JWb) J6)))))
theorem JL_eq : g_judge_spread = JL := rfl
/-- good gaps -/
structure Gaps (g : List Nat) : Prop where
  ne : g ≠ []
  len : g.length ≤ 60
  le : ∀ k ∈ g, k ≤ 10000
  sum : g.sum ≤ 1000000
theorem judge_ok {g : List Nat} (h : Gaps g) (n : Int) :
    (Even g → ∃ s, s < g.length ∧ (spr g.sum g.length).drop s ++ (spr g.sum g.length).take s = g ∧ f_judge_spread [gD g] n = some (.ok (evD s), n)) ∧
    (¬ Even g → ∃ a b w, a < g.length ∧ b < g.length ∧ 1 ≤ w ∧ w < g.length ∧ win g b w + 2 ≤ win g a w ∧ f_judge_spread [gD g] n = some (.ok (unD a b w), n)) := by
  have hn : 0 < g.length := List.length_pos_iff.mpr h.ne
  have hl := h.len
  have ck := gaps_ok g hn hl h.le n
  have f0 : J0 (JE g .no .no .no .no) n = some (.ok (.nx (JE g .no .no .no .no)), n) := by
    unfold JE
    generalize gD g = Z at *
    unfold J0
    simp [ck]
  have lp := forD_first (fun w : Nat => D.int w) (gV 1) JSb (okw g) (fun w => unD (hiAt g w) (loAt g w) w) (fun ρ => ∃ s1 s2, ρ = JE g s1 s2 .no .no) n ((List.range (g.length - 1)).map (1 + ·)) (fun w hw ρ ⟨s1, s2, hρ⟩ => by
    subst hρ
    obtain ⟨i, hi, rfl⟩ := List.mem_map.mp hw
    rw [List.mem_range] at hi
    have k := js_run g h.ne hl (1 + i) (by omega) s2 n
    refine ⟨JE g (.val (.int ((1 + i : Nat) : Int))) s2 .no .no, rfl, fun z => ⟨JE g (.val (.int ((1 + i : Nat) : Int))) (.val (intsD (sums g (1 + i)))) .no .no, ?_, _, _, rfl⟩, fun z => ?_⟩
    · rw [k, z, selB_true]
    · rw [k, z, selB_false]) (JE g .no .no .no .no) ⟨_, _, rfl⟩
  have r := rng_w g.length (by omega) (by omega)
  have F : JF (JE g .no .no .no .no) n = forD (gV 1) JSb (((List.range (g.length - 1)).map (1 + ·)).map fun w : Nat => D.int w) (JE g .no .no .no .no) n := by
    have i0 : iRng2D (eCons (eC (.int 1)) (eCons (eB dLen (eCons (eVar 0) eNil)) eNil)) (JE g .no .no .no .no) n = some (.ok (((List.range (g.length - 1)).map (1 + ·)).map fun w : Nat => D.int w), n) := by
      have l := gD_len g
      unfold JE
      generalize (((List.range (g.length - 1)).map (1 + ·)).map fun w : Nat => D.int w) = A at *
      generalize gD g = Z at *
      simp [r, l]
    unfold JF
    rw [sFor_ap, bind_ap, i0, bindR_ok]
  rw [← F] at lp
  have sh : f_judge_spread [gD g] n = bindR (JL ([gD g].map Sl.val ++ List.replicate (6 - 1) Sl.no) n) runK := by
    unfold f_judge_spread
    rw [runD_ap, bind_ap, JL_eq]
  have arg : ([gD g].map Sl.val ++ List.replicate (6 - 1) Sl.no) = JE g .no .no .no .no := rfl
  rw [sh, arg]
  have ev : ((List.range (g.length - 1)).map (1 + ·)).all (okw g) = evB g := rfl
  rw [ev] at lp
  constructor
  · intro he
    obtain ⟨ρ', k1, s1, s2, rfl⟩ := lp.1 ((evB_iff h.ne).mpr he)
    obtain ⟨s, q1, q2, q3⟩ := shift_at h.ne he
    refine ⟨s, q1, q2, ?_⟩
    have ag := again_ok g hn hl h.sum n
    have f3 : J3 (JE g s1 s2 .no .no) n = some (.ok (.nx (JE g s1 s2 (.val (gD (spr g.sum g.length))) .no)), n) := by
      unfold JE
      generalize gD (spr g.sum g.length) = Z1 at *
      generalize gD g = Z at *
      unfold J3
      simp [ag]
    have f5 : (sWhile (fun _ => 1000000) JWt JWb) (JE g s1 s2 (.val (gD (spr g.sum g.length))) (.val (.int 0))) n = some (.ok (.nx (JE g s1 s2 (.val (gD (spr g.sum g.length))) (.val (.int s)))), n) := by
      rw [sWhile_ap]
      exact jw_loop g _ (by rw [spr_len]; omega) s1 s2 n s q2 q3 s 0 1000000 (by omega) (by omega)
    have ei := ev_init s n
    have mk : makeK 5 (evD s) = M.pure (evD s) := makeK_obj _ _ _
    have f6 : J6 (JE g s1 s2 (.val (gD (spr g.sum g.length))) (.val (.int s))) n = some (.ok (.ret (evD s)), n) := by
      unfold JE
      generalize evD s = U at *
      unfold J6
      simp [ei, mk]
    have go : JL (JE g .no .no .no .no) n = some (.ok (.ret (evD s)), n) := seq_go f0 (seq_go k1 (seq_go f3 (seq_go (ρ1 := JE g s1 s2 (.val (gD (spr g.sum g.length))) (.val (.int 0))) rfl (seq_go f5 f6))))
    rw [go]
    rfl
  · intro he
    have q : evB g = false := by
      rw [Bool.eq_false_iff]
      exact fun z => he ((evB_iff h.ne).mp z)
    obtain ⟨w, w1, w2, w3⟩ := lp.2 q
    obtain ⟨i, hi, rfl⟩ := List.mem_map.mp w1
    rw [List.mem_range] at hi
    obtain ⟨a1, a2⟩ := hi_ok h.ne (1 + i)
    obtain ⟨b1, b2⟩ := lo_ok h.ne (1 + i)
    have q2 := of_decide_eq_false w2
    refine ⟨hiAt g (1 + i), loAt g (1 + i), 1 + i, a1, b1, by omega, by omega, by omega, ?_⟩
    have go : JL (JE g .no .no .no .no) n = some (.ok (.ret (unD (hiAt g (1 + i)) (loAt g (1 + i)) (1 + i : Nat))), n) := seq_go f0 (by rw [sSeq_ap, bind_ap, w3, bindR_ok, seqK_ret, pure_ap])
    rw [go]
    rfl
end K57
end

section
set_option Elab.async false
set_option linter.all false
set_option autoImplicit false
set_option maxRecDepth 100000
namespace K57
open DL PySem L2 P_k57_whole_spread PyProof.Rows
theorem gD_eq (g k : List Nat) : dEq (gD g) (gD k) = some (.bl (decide (g = k))) := by
  have h := gD_ne g k
  unfold dNe at h
  unfold dEq
  cases e : dEqB (gD g) (gD k) with
  | none => rw [e] at h; cases h
  | some b =>
    rw [e] at h
    have h2 : (!b) = !decide (g = k) := by injection h with h; injection h
    have : b = decide (g = k) := by cases b <;> cases q : decide (g = k) <;> simp_all
    rw [this]
/-- the spread gaps, turned -/
def turned (g : List Nat) (s : Nat) : List Nat := (List.range g.length).map fun a => (spr g.sum g.length).getD ((s + a) % g.length) 0
theorem ev_shows {g : List Nat} (h : Gaps g) (s : Nat) (hs : s ≤ 100000) (n : Int) : f_Even_shows [evD s, gD g] n = some (.ok (.bl (decide (turned g s = g))), n) := by
  have hn : 0 < g.length := List.length_pos_iff.mpr h.ne
  have hl := h.len
  have ck := gaps_ok g hn hl h.le n
  have ag := again_ok g hn hl h.sum n
  have fl := ev_fld s
  have nu := num_ok (s : Int) n
  have l := gD_len g
  have c := comp_all (fun a : Nat => D.int a) (compB [3] (gV 3) tYesD (e2 dIxA (eVar 2) (e2 dMod (e2 dAdd (e1 (dFld 5 "shift") (eVar 0)) (eVar 3)) (eB dLen (eCons (eVar 1) eNil)))) [.val (evD s), .val (gD g), .val (gD (spr g.sum g.length)), .no]) (fun a => .int ((spr g.sum g.length).getD ((s + a) % g.length) 0 : Nat)) n (List.range g.length) fun a ha => by
    have m : dMod (.int ((s : Int) + a)) (.int g.length) = some (.int (((s + a) % g.length : Nat) : Int)) := by
      rw [dMod_int (by omega)]
      rfl
    have x := gD_get (spr g.sum g.length) (j := (s + a) % g.length) (by rw [spr_len]; exact Nat.mod_lt _ hn)
    generalize gD (spr g.sum g.length) = Z1 at *
    generalize gD g = Z at *
    generalize evD s = U at *
    generalize (((s + a) % g.length : Nat) : Int) = J at *
    generalize (((spr g.sum g.length).getD ((s + a) % g.length) 0 : Nat) : Int) = GG at *
    generalize (g.length : Int) = LL at *
    simp [fl, l, m, x]
  have z := z_small (List.range g.length) (fun a : Nat => D.int ((spr g.sum g.length).getD ((s + a) % g.length) 0 : Nat)) (by rw [List.length_range]; omega)
  have ml := mkLst_of z
  have e : D.lst ((List.range g.length).map fun a : Nat => D.int ((spr g.sum g.length).getD ((s + a) % g.length) 0 : Nat)) = gD (turned g s) := by
    unfold gD turned
    rw [List.map_map]
    rfl
  rw [e] at ml
  have r := rng1 g.length (by omega)
  have eq := gD_eq (turned g s) g
  generalize decide (turned g s = g) = b at *
  generalize ((List.range g.length).map fun a : Nat => D.int ((spr g.sum g.length).getD ((s + a) % g.length) 0 : Nat)) = B at *
  generalize ((List.range g.length).map fun i : Nat => D.int i) = A at *
  generalize gD (turned g s) = Z2 at *
  generalize gD (spr g.sum g.length) = Z1 at *
  generalize gD g = Z at *
  generalize evD s = U at *
  simp only [f_Even_shows, g_Even_shows]
  simp [ck, ag, fl, nu, l, r, c, ml, eq]
end K57
end

section
set_option Elab.async false
set_option linter.all false
set_option autoImplicit false
set_option maxRecDepth 100000
namespace K57
open DL PySem L2 P_k57_whole_spread PyProof.Rows
theorem un_shows {g : List Nat} (h : Gaps g) (a b w : Nat) (ha : a < g.length) (hb : b < g.length) (n : Int) : f_Uneven_shows [unD a b w, gD g] n = some (.ok (.bl (decide (1 ≤ w ∧ w ≤ g.length ∧ win g b w + 2 ≤ win g a w))), n) := by
  have hn : 0 < g.length := List.length_pos_iff.mpr h.ne
  have hl := h.len
  have ck := gaps_ok g hn hl h.le n
  have o1 := un_one a b w
  have o2 := un_other a b w
  have o3 := un_width a b w
  have n1 := num_ok (a : Int) n
  have n2 := num_ok (b : Int) n
  have n3 := num_ok (w : Int) n
  have l := gD_len g
  have c1 := leA_nat 0 (a : Int)
  have c2 := leA_nat 0 (b : Int)
  rw [decide_eq_true (by omega)] at c1 c2
  have c3 : (a : Int) < g.length := by omega
  have c4 : (b : Int) < g.length := by omega
  have al : dAll [.lst [.bl true, .bl true]] = some (.bl true) := rfl
  have d1 := leA_nat 1 (w : Int)
  have d2 := leA_nat (w : Int) g.length
  have it : dItems (.tup [.int (a : Int), .int (b : Int)]) = some [.int (a : Int), .int (b : Int)] := rfl
  by_cases q1 : 1 ≤ w
  · by_cases q2 : w ≤ g.length
    · have s1 := sum_from_ok g h.ne a w (by omega) (by omega) n
      have s2 := sum_from_ok g h.ne b w (by omega) (by omega) n
      have eq : decide (1 ≤ w ∧ w ≤ g.length ∧ win g b w + 2 ≤ win g a w) = decide (((win g b w : Nat) : Int) + 2 ≤ ((win g a w : Nat) : Int)) := decide_eq_decide.mpr (by omega)
      rw [eq]
      rw [decide_eq_true (by omega)] at d1 d2
      generalize gD g = Z at *
      generalize unD a b w = U at *
      generalize ((win g a w : Nat) : Int) = X at *
      generalize ((win g b w : Nat) : Int) = Y at *
      simp only [f_Uneven_shows, g_Uneven_shows]
      simp [ck, o1, o2, o3, n1, n2, n3, l, c1, c2, c3, c4, al, d1, d2, it, compD_cons, compD_nil, s1, s2]
    · rw [decide_eq_false (fun z => q2 z.2.1)]
      rw [decide_eq_true (by omega)] at d1
      rw [decide_eq_false (by omega)] at d2
      generalize gD g = Z at *
      generalize unD a b w = U at *
      simp only [f_Uneven_shows, g_Uneven_shows]
      simp [ck, o1, o2, o3, n1, n2, n3, l, c1, c2, c3, c4, al, d1, d2, it, compD_cons, compD_nil]
  · rw [decide_eq_false (fun z => q1 z.1)]
    rw [decide_eq_false (by omega)] at d1
    generalize gD g = Z at *
    generalize unD a b w = U at *
    simp only [f_Uneven_shows, g_Uneven_shows]
    simp [ck, o1, o2, o3, n1, n2, n3, l, c1, c2, c3, c4, al, d1, d2, it, compD_cons, compD_nil]
end K57
end

section
set_option Elab.async false
set_option linter.all false
set_option autoImplicit false
set_option maxRecDepth 100000
set_option maxHeartbeats 400000
namespace K57
open DL PySem L2 P_k57_whole_spread PyProof.Rows
/-! ### the law's rows -/
def AR2 : SX := (sSeq (sAsg (gV 4) (e2 dAdd (e2 dIx (e2 dIx (eVar 3) (eC (.int 1))) (eC (.int 0))) (e2 dMul (e2 dIx (e2 dIx (eVar 3) (eC (.int 1))) (eC (.int 1))) (eVar 1))))
  (sSeq (sIf (tB (e2 dLt (eVar 4) (eC (.int 0)))) (sSeq (sFrz 2) (sRet (e2 dAdd (eVar 2) (eLst (eCons (eC .non) eNil))))) sNx)
  (sExt 2 (e2 dMulL (eB dLstA (eCons (e2 dIx (eVar 3) (eC (.int 2))) eNil)) (eVar 4)))))
def ARb : SX := (sIf (tB (e2 dEq (e2 dIx (eVar 3) (eC (.int 0))) (eC (.str "row")))) (sApp 2 (e2 dIx (eVar 3) (eC (.int 1)))) AR2)
def ARf : SX := (sFor (gV 3) (iOf (eVar 0)) ARb)
def AR : SX := (sSeq (sOwn 2 (.lst [])) (sSeq ARf (sSeq (sFrz 2) (sRet (eVar 2)))))
theorem AR_eq : g__law_all_rows = AR := rfl
def AE (P : D) (acc : List Row) (s3 s4 : Sl) : DL.Env := [.val P, .val (.int 5), .own (encL acc), s3, s4]
theorem ar_run {p : Part} (h : Op p) (P : D) (acc : List Row) (hl : acc.length ≤ 10000000) (s4 : Sl) (n : Int) : ∃ s4', ARb (AE P acc (.val (pD p)) s4) n = some (.ok (.nx (AE P (acc ++ pun p) (.val (pD p)) s4')), n) := by
  cases p with
  | row r =>
    refine ⟨s4, ?_⟩
    have x0 : dIx (pD (.row r)) (.int 0) = some (.str "row") := rfl
    have x1 : dIx (pD (.row r)) (.int 1) = some (PyE.enc r) := rfl
    have up := uApp_ok (PyE.enc r) (acc.map PyE.enc) (by rw [List.length_map]; omega)
    have e : D.lst (acc.map PyE.enc ++ [PyE.enc r]) = encL (acc ++ pun (.row r)) := by
      unfold encL
      rw [List.map_append]
      rfl
    rw [e] at up
    replace up : uApp (PyE.enc r) (encL acc) = some (encL (acc ++ pun (.row r))) := up
    have ow : ∀ s3 s4, ownLst 2 [.val P, .val (.int 5), .own (encL acc), s3, s4] = some () := fun _ _ => rfl
    unfold AE
    generalize encL (acc ++ pun (.row r)) = A1 at *
    generalize encL acc = A0 at *
    generalize pD (.row r) = Y at *
    generalize (PyE.enc r : D) = Z at *
    unfold ARb
    simp [x0, x1, s_rr, ow, up]
  | blk t rs =>
    refine ⟨.val (.int t), ?_⟩
    have x0 : dIx (pD (.blk t rs)) (.int 0) = some (.str "block") := rfl
    have x1 : dIx (pD (.blk t rs)) (.int 1) = some (.tup [.int t, .int 0]) := rfl
    have x2 : dIx (pD (.blk t rs)) (.int 2) = some (encT rs) := rfl
    have y0 : dIx (.tup [.int (t : Int), .int 0]) (.int 0) = some (.int t) := rfl
    have y1 : dIx (.tup [.int (t : Int), .int 0]) (.int 1) = some (.int 0) := rfl
    have mm := mul_l 0 5 (by omega) (by omega)
    have la := lstA_T rs
    have tp : ¬ (t : Int) < 0 := by omega
    have ml := dMulL_L (xs := rs) (k := t) (by have := h.2.1; omega) (by have := h.2.2.2.1; omega)
    have ow : ∀ s3 s4, ownLst 2 [.val P, .val (.int 5), .own (encL acc), s3, s4] = some () := fun _ _ => rfl
    have ex : uExt (encL (pun (.blk t rs))) (encL acc) = some (encL (acc ++ pun (.blk t rs))) := by
      have lp : (pun (.blk t rs)).length ≤ 99 * 20 := by
        show (pw rs t).length ≤ _
        rw [pw_length]; exact Nat.mul_le_mul h.2.1 h.2.2.2.1
      have := uExt_ok (xs := acc.map (PyE.enc : Row → D)) (ys := (pun (.blk t rs)).map PyE.enc) (by rw [List.length_map, List.length_map]; omega)
      rw [← List.map_append] at this
      exact this
    replace ml : dMulL (encL rs) (.int (t : Int)) = some (encL (pun (.blk t rs))) := ml
    unfold AE
    generalize encL (acc ++ pun (.blk t rs)) = A2 at *
    generalize encL (pun (.blk t rs)) = A1 at *
    generalize encL acc = A0 at *
    generalize encL rs = B1 at *
    generalize encT rs = B0 at *
    generalize (D.tup [.int (t : Int), .int 0]) = L at *
    generalize pD (.blk t rs) = Y at *
    unfold ARb AR2
    simp [x0, x1, x2, y0, y1, s_br, mm, tp, la, ml, ow, ex]
theorem ar_loop (P : D) (n : Int) : ∀ (ps : List Part) (acc : List Row) (s3 s4 : Sl), (∀ p ∈ ps, Op p) → acc.length + ps.length * 1980 ≤ 10000000 → ∃ s3' s4', forD (gV 3) ARb (ps.map pD) (AE P acc s3 s4) n = some (.ok (.nx (AE P (acc ++ ps.flatMap pun) s3' s4')), n)
  | [], acc, s3, s4, _, _ => ⟨s3, s4, by simp⟩
  | p :: ps, acc, s3, s4, h, hl => by
    rw [List.length_cons] at hl
    have hp := h p List.mem_cons_self
    have lp : (pun p).length ≤ 1980 := by
      cases p with
      | row r => show 1 ≤ 1980; omega
      | blk t rs =>
        show (pw rs t).length ≤ _
        rw [pw_length]
        exact Nat.mul_le_mul hp.2.1 hp.2.2.2.1
    obtain ⟨s4', b⟩ := ar_run hp P acc (by omega) s4 n
    obtain ⟨t3, t4, e⟩ := ar_loop P n ps (acc ++ pun p) (.val (pD p)) s4' (fun q hq => h q (List.mem_cons_of_mem _ hq)) (by rw [List.length_append]; omega)
    refine ⟨t3, t4, ?_⟩
    rw [List.map_cons, forD_cons, bind_ap, gV_ap, opt_some, bindR_ok, bind_ap]
    show bindR (ARb (AE P acc (.val (pD p)) s4) n) _ = _
    rw [b, bindR_ok, turnK_nx, e, List.flatMap_cons, List.append_assoc]
theorem allrows_ok (ps : List Part) (h : ∀ p ∈ ps, Op p) (hl : ps.length ≤ 1000) (n : Int) : f__law_all_rows [.tup (ps.map pD), .int 5] n = some (.ok (encL (ps.flatMap pun)), n) := by
  obtain ⟨s3, s4, e⟩ := ar_loop (.tup (ps.map pD)) n ps [] .no .no h (by simp; omega)
  rw [List.nil_append] at e
  have it : dItems (.tup (ps.map pD)) = some (ps.map pD) := rfl
  have f1 : ARf (AE (.tup (ps.map pD)) [] .no .no) n = some (.ok (.nx (AE (.tup (ps.map pD)) (ps.flatMap pun) s3 s4)), n) := by
    have i0 : iOf (eVar 0) (AE (.tup (ps.map pD)) [] .no .no) n = some (.ok (ps.map pD), n) := by
      unfold AE
      generalize ps.map pD = A at *
      simp [it]
    unfold ARf
    rw [sFor_ap, bind_ap, i0, bindR_ok, e]
  have go : AR [.val (.tup (ps.map pD)), .val (.int 5), .no, .no, .no] n = some (.ok (.ret (encL (ps.flatMap pun))), n) := seq_go (ρ1 := AE (.tup (ps.map pD)) [] .no .no) rfl (seq_go f1 (seq_go (ρ1 := [.val (.tup (ps.map pD)), .val (.int 5), .val (encL (ps.flatMap pun)), s3, s4]) rfl rfl))
  have sh : f__law_all_rows [.tup (ps.map pD), .int 5] n = bindR (AR ([D.tup (ps.map pD), .int 5].map Sl.val ++ List.replicate (5 - 2) Sl.no) n) runK := by
    unfold f__law_all_rows
    rw [runD_ap, bind_ap, AR_eq]
  have arg : ([D.tup (ps.map pD), .int 5].map Sl.val ++ List.replicate (5 - 2) Sl.no) = [.val (.tup (ps.map pD)), .val (.int 5), .no, .no, .no] := rfl
  rw [sh, arg, go]
  rfl
end K57
end

section
set_option Elab.async false
set_option linter.all false
set_option autoImplicit false
set_option maxRecDepth 100000
set_option maxHeartbeats 400000
local macro_rules
  | `(tactic| simp_arith [$ts,*]) => `(tactic| simp (disch := first | omega | (simp only [List.length_cons, List.length_nil, List.length_map, List.length_range, List.length_append] <;> omega) | assumption) only [DL.bind_ap, DL.pure_ap, DL.opt_some, DL.opt_none, DL.bindR_ok, DL.bindR_none, DL.bindR_err, DL.bindR_assoc, DL.selB_true, DL.selB_false, DL.seqK_nx, DL.seqK_bk, DL.seqK_ct, DL.seqK_ret, DL.runK_ret, DL.runK_nx, DL.runIK_nx, DL.turnK_nx, DL.turnK_ct, DL.turnK_bk, DL.turnK_ret, DL.makeK_obj, DL.intK_int, DL.chainK_true, DL.chainK_false, DL.consO_some, DL.consO_none, DL.eVar_0, DL.eVar_s, DL.eC_ap, DL.eNil_ap, DL.eCons_ap, DL.eTup_ap, DL.eLst_ap, DL.e2_ap, DL.e1_ap, DL.eB_ap, DL.eCall_ap, DL.eMake_ap, DL.eMeth_ap, DL.eIf_ap, DL.eAnd_ap, DL.eOr_ap, DL.eNot_ap, DL.eCut_ap, DL.oNone_ap, DL.oSome_ap, DL.eChain_ap, DL.tB_ap, DL.tTru_ap, DL.tAndD_ap, DL.tOrD_ap, DL.tNotD_ap, DL.tYesD_ap, DL.dBool_bl, DL.dTru_bl, DL.isNon_non, DL.isNon_int, DL.isNon_tup, DL.sNx_ap, DL.sSeq_ap, DL.sRet_ap, DL.sExp_ap, DL.sAsg_ap, DL.sIf_ap, DL.sFor_ap, DL.sWhile_ap, DL.sAug_ap, DL.sUp_ap, DL.sPar_ap, DL.own_0, DL.own_s, DL.gV_ap, DL.gT_ap, DL.gsN_ap, DL.gsC_ap, DL.iOf_ap, DL.iRng1D_ap, DL.iRng2D_ap, DL.dItems_tup, DL.dItems_lst, DL.calmR_ok, DL.calm_ap, DL.eComp_ap, DL.ownLst_0, DL.ownLst_s, DL.sApp_ap, DL.compB_ap, DL.hide_nil, DL.hide_no, DL.hide_val, DL.hide_own, DL.hide_j, DL.wipeD_nil, DL.wipeD_cons, DL.runD_ap, DL.runI_ap, DL.forD_nil, DL.eOwn2_ap, DL.e2M_ap, DL.e1M_ap, DL.mOwn_ap, DL.mOwn1_ap, DL.optK_bl, DL.mOwnIn_ap, DL.tOwn_ap, DL.eNotT_ap, DL.eBoolO_ap, DL.iZipD_ap, DL.sOwnN_ap, DL.cutK_lst, DL.nCut_ap, DL.nLst_ap, DL.sFrz_ap, DL.eIxT_ap, DL.sPutT_ap, DL.sOwn2_ap, DL.sOwn_ap, DL.nComp_ap, DL.nAdd_ap, DL.eIdx_ap, DL.isLst_lst, DL.eOwnIx_ap, DL.sPutL_ap, DL.sExtM_ap, DL.sExt_ap, DL.sBk_ap, DL.eChain3_ap, DL.nLstOf_ap, DL.itemsLT_lst, DL.itemsLT_tup, DL.iEnumD_ap, DL.dEnum_lst, DL.dEnum_tup, DL.sPutL2_ap, DL.putE_ap, DL.two_tup, DL.dAdd_int, DL.dSub_int, DL.dNeg_int, DL.dLen_tup, DL.dLen_lst, DL.lt_t, DL.lt_f, DL.gt_t, DL.gt_f, DL.ge_t, DL.ge_f, DL.le_t, DL.le_f, DL.eq_t, DL.eq_f, DL.ne_t, DL.ne_f, DL.mulR, DL.mulL, DL.mulNR, DL.mulNL, DL.dMod_int, DL.dDiv_int, DL.tru_bl, DL.iL_len, DL.iL_items, DL.fst2, DL.snd2, DL.fst3, DL.snd3, DL.trd3, DL.all_nil, DL.mkTup_of, DL.mkLst_of, List.map_cons, List.map_nil, List.cons_append, List.nil_append, List.set_cons_zero, List.set_cons_succ, List.length_cons, List.length_nil, List.length_map, List.length_range, List.replicate_succ, List.replicate_zero, List.foldl_cons, List.foldl_nil, List.zip_cons_cons, List.zip_nil_right, Option.bind_some, Option.bind_none, Bool.not_true, Bool.not_false, Bool.and_true, Bool.true_and, Bool.and_false, Bool.false_and, Bool.or_true, Bool.true_or, Bool.or_false, Bool.false_or, if_true, if_false, $ts,*])
namespace K57
open DL PySem L2 P_k57_whole_spread PyProof.Rows
theorem is_ev (s : Int) : dIsO is5 (evD s) = some (.bl true) := by kernel_rfl
theorem is_un (a b w : Int) : dIsO is5 (unD a b w) = some (.bl false) := rfl
theorem ev_bool (s : Int) (ρ : DL.Env) (n : Int) (f : EX) (h : f ρ n = some (.ok (evD s), n)) : eBoolO (tOwn 5 f_Even___bool__ f) ρ n = some (.ok (.bl true), n) := by
  have e : f_Even___bool__ [evD s] n = some (.ok (.bl true), n) := rfl
  have c : isC 5 (evD s) = true := by kernel_rfl
  simp_arith [h, c, e]
theorem un_bool (a b w : Int) (ρ : DL.Env) (n : Int) (f : EX) (h : f ρ n = some (.ok (unD a b w), n)) : eAlt (eBoolO (tOwn 5 f_Even___bool__ f)) (eBoolO (tOwn 6 f_Uneven___bool__ f)) ρ n = some (.ok (.bl false), n) := by
  have e : f_Uneven___bool__ [unD a b w] n = some (.ok (.bl false), n) := rfl
  have c : isC 6 (unD a b w) = true := by kernel_rfl
  have c' : isC 5 (unD a b w) = false := by kernel_rfl
  rw [eAlt_snd (by simp_arith [h, c', reduceIte, Bool.false_eq_true]; rfl)]
  simp_arith [h, c, e]
theorem turned_of {g : List Nat} (h : Gaps g) {s : Nat} (hs : s < g.length) (e : (spr g.sum g.length).drop s ++ (spr g.sum g.length).take s = g) : turned g s = g := by
  have k := (rot_iff (spr_len g.sum g.length) (by rw [spr_len]; exact hs)).mp e
  unfold turned
  apply List.ext_getElem
  · rw [List.length_map, List.length_range]
  · intro i h1 h2
    rw [List.getElem_map, List.getElem_range, k i h2, List.getD_eq_getElem?_getD, List.getElem?_eq_getElem h2]
    rfl
theorem turned_even {g : List Nat} (h : Gaps g) {s : Nat} (e : turned g s = g) : Even g := by
  refine turn_even (S := g.sum) (sh := s) h.ne fun a ha => ?_
  have q := congrArg (fun x => x.getD a 0) e
  rw [← q]
  show _ = (turned g s).getD a 0
  unfold turned
  rw [List.getD_eq_getElem?_getD (l := List.map _ _), List.getElem?_map, List.getElem?_range ha]
  rfl
theorem turned_per (g : List Nat) (s : Nat) : turned g (s + g.length) = turned g s := by
  unfold turned
  apply List.map_congr_left
  intro a _
  rw [Nat.add_right_comm, Nat.add_mod_right]
theorem gD_list (g : List Nat) (f : Nat → Nat) (k : Nat) : D.lst ((List.range k).map fun a : Nat => D.int (f a : Nat)) = gD ((List.range k).map f) := by
  unfold gD
  rw [List.map_map]
  rfl
theorem dAny_map {α : Type} (g : α → Bool) (w : List α) : dAny [.lst (w.map fun x => .bl (g x))] = some (.bl (w.any g)) := by
  unfold dAny
  simp only [bls_map]
  simp [List.any_map]
theorem isM5 (s : Int) : isObj 5 "shows" (evD s) = true := by kernel_rfl
theorem isM6 (a b w : Int) : isObj 6 "shows" (unD a b w) = true := by kernel_rfl
theorem isM5' (a b w : Int) : isObj 5 "shows" (unD a b w) = false := by kernel_rfl
theorem mk5 (s : Int) : makeK 5 (evD s) = M.pure (evD s) := makeK_obj _ _ _
theorem mk6 (a b w : Int) : makeK 6 (unD a b w) = M.pure (unD a b w) := makeK_obj _ _ _
theorem judged_ok {g : List Nat} (h : Gaps g) (hs : g.sum ≤ 10000) (n : Int) : f__law_judged [gD g] n = some (.ok (.bl true), n) := by
  have hn : 0 < g.length := List.length_pos_iff.mpr h.ne
  have hl := h.len
  have J := judge_ok h n
  have le := law_even_ok g h.ne h.len n
  by_cases he : Even g
  · obtain ⟨s, s1, s2, jd⟩ := J.1 he
    have tu := turned_of h s1 s2
    have ev : evB g = true := (evB_iff h.ne).mpr he
    rw [ev] at le
    have sp := spread_ok g.sum g.length hs hn hl n
    have sh := fun s hs => ev_shows h s hs n
    have sh1 := sh s (by omega)
    have sh2 := sh (s + g.length) (by omega)
    rw [turned_per, tu, decide_eq_true rfl] at sh2
    rw [tu, decide_eq_true rfl] at sh1
    rw [Int.natCast_add] at sh2
    have us := un_shows h 0 (if g.length > 1 then 1 else 0) 1 hn (by split <;> omega) n
    have uf : decide (1 ≤ 1 ∧ 1 ≤ g.length ∧ win g (if g.length > 1 then 1 else 0) 1 + 2 ≤ win g 0 1) = false := by
      rw [decide_eq_false]
      rintro ⟨_, _, q⟩
      by_cases z : g.length > 1
      · rw [if_pos z] at q
        have := he 1 (by omega) z 0 hn 1 z
        omega
      · rw [if_neg z] at q
        omega
    rw [uf] at us
    have b1 : eBoolO (tOwn 5 f_Even___bool__ (eVar 1)) [.val (gD g), .val (evD s), .no, .no, .no] n = some (.ok (.bl true), n) := ev_bool s _ n _ rfl
    have b2 : eMeth 5 "shows" f_Even_shows (eVar 1) (eCons (eVar 0) eNil) [.val (gD g), .val (evD s), .no, .no, .no] n = some (.ok (.bl true), n) := by
      simp_arith [isM5, sh1]
    have rg := rng1_nat (k := g.length) (by omega)
    have di : ∀ i : Int, dIntA [.int i] = some (.int i) := fun _ => rfl
    have ui := un_init 0 ((if g.length > 1 then 1 else 0 : Nat) : Int) 1 n
    have ei := ev_init ((s : Int) + g.length) n
    have ifb : eIf (tB (e2 dGt (eB dLen (eCons (eVar 0) eNil)) (eC (.int 1)))) (eC (.int 1)) (eC (.int 0)) [.val (gD g), .val (evD s), .val (gD (spr g.sum g.length)), .no, .no] n = some (.ok (.int ((if g.length > 1 then 1 else 0 : Nat) : Int)), n) := by
      by_cases z : g.length > 1
      · rw [if_pos z]
        simp_arith [gD_len]
        rfl
      · rw [if_neg z]
        simp_arith [gD_len]
        rfl
    generalize hb : (if g.length > 1 then 1 else 0 : Nat) = bb at *
    replace us : f_Uneven_shows [unD 0 (bb : Int) 1, gD g] n = some (.ok (.bl false), n) := us
    simp only [f__law_judged, g__law_judged]
    simp_arith [jd, le, eAlt_fst b1, eAlt_fst b2, gD_len, gD_sum, sp, is_ev, dNe_bl, isM5, rg, beq_self_eq_true, ↓ifb, isM6, ui, mk6, us, ei, mk5, sh2, ev_fld]
    rw [comp_of (fun a : Nat => .int ((spr g.sum g.length).getD ((s + a) % g.length) 0 : Nat)) (fun a ha => by
      have x := gD_get (spr g.sum g.length) (j := (s + a) % g.length) (by rw [spr_len]; exact Nat.mod_lt _ hn)
      have c : ((s : Int) + a) % g.length = (((s + a) % g.length : Nat) : Int) := rfl
      simp_arith [ev_fld, gD_len, di, c, x])]
    have e := gD_list g (fun a => (spr g.sum g.length).getD ((s + a) % g.length) 0) g.length
    have e2 : (List.range g.length).map (fun a => (spr g.sum g.length).getD ((s + a) % g.length) 0) = g := tu
    rw [e2] at e
    have ne := gD_ne g g
    rw [decide_eq_true rfl] at ne
    simp_arith [e, ne, ↓ifb, isM6, ui, mk6, us, ei, mk5, sh2, ev_fld, gD_len, isM5]
  · obtain ⟨a, b, w, a1, b1, w1, w2, wn, jd⟩ := J.2 he
    have ev : evB g = false := by rw [Bool.eq_false_iff]; exact fun z => he ((evB_iff h.ne).mp z)
    rw [ev] at le
    have sh := un_shows h a b w a1 b1 n
    rw [decide_eq_true ⟨w1, by omega, wn⟩] at sh
    have sh2 := un_shows h b a w b1 a1 n
    rw [decide_eq_false (by omega)] at sh2
    have sh3 := un_shows h a b 0 a1 b1 n
    rw [decide_eq_false (by omega)] at sh3
    replace sh3 : f_Uneven_shows [unD a b 0, gD g] n = some (.ok (.bl false), n) := sh3
    have l1 := law_sum_ok g (by omega) a w (by omega) n
    have l2 := law_sum_ok g (by omega) b w (by omega) n
    have ub := un_bool a b w [.val (gD g), .val (unD a b w), .no, .no, .no] n (eVar 1) rfl
    have us : eAlt (eMeth 5 "shows" f_Even_shows (eVar 1) (eCons (eVar 0) eNil)) (eMeth 6 "shows" f_Uneven_shows (eVar 1) (eCons (eVar 0) eNil)) [.val (gD g), .val (unD a b w), .no, .no, .no] n = some (.ok (.bl true), n) := by
      rw [eAlt_snd (by simp_arith [isM5', reduceIte, Bool.false_eq_true])]
      simp_arith [isM6, sh]
    have rg := rng1_nat (k := g.length) (by omega)
    have u1 := un_init b a w n
    have u2 := un_init a b 0 n
    simp only [f__law_judged, g__law_judged]
    simp_arith [jd, le, ub, us, dNe_bl, is_un, beq_self_eq_true, un_one, un_other, un_width, l1, l2, isM6, u1, u2, mk6, sh2, sh3, rg, gD_len]
    rw [comp_of (fun s : Nat => D.bl (decide (turned g s = g))) (fun s hs => by
      have es := ev_shows h s (by have := List.mem_range.mp hs; omega) n
      have ei := ev_init (s : Int) n
      simp_arith [ei, mk5, isM5, es])]
    have an := dAny_map (fun s => decide (turned g s = g)) (List.range g.length)
    have af : (List.range g.length).any (fun s => decide (turned g s = g)) = false := by
      rw [List.any_eq_false]
      intro s _
      rw [decide_eq_true_eq]
      exact fun e => he (turned_even h e)
    rw [af] at an
    simp_arith [an, un_one, un_other, u2, mk6, isM6, sh3]
end K57
end

section
set_option Elab.async false
set_option linter.all false
set_option autoImplicit false
set_option maxRecDepth 100000
set_option maxHeartbeats 400000
local macro_rules
  | `(tactic| simp_arith [$ts,*]) => `(tactic| simp (disch := first | omega | (simp only [List.length_cons, List.length_nil, List.length_map, List.length_range, List.length_append] <;> omega) | assumption) only [DL.bind_ap, DL.pure_ap, DL.opt_some, DL.opt_none, DL.bindR_ok, DL.bindR_none, DL.bindR_err, DL.bindR_assoc, DL.selB_true, DL.selB_false, DL.seqK_nx, DL.seqK_bk, DL.seqK_ct, DL.seqK_ret, DL.runK_ret, DL.runK_nx, DL.runIK_nx, DL.turnK_nx, DL.turnK_ct, DL.turnK_bk, DL.turnK_ret, DL.makeK_obj, DL.intK_int, DL.chainK_true, DL.chainK_false, DL.consO_some, DL.consO_none, DL.eVar_0, DL.eVar_s, DL.eC_ap, DL.eNil_ap, DL.eCons_ap, DL.eTup_ap, DL.eLst_ap, DL.e2_ap, DL.e1_ap, DL.eB_ap, DL.eCall_ap, DL.eMake_ap, DL.eMeth_ap, DL.eIf_ap, DL.eAnd_ap, DL.eOr_ap, DL.eNot_ap, DL.eCut_ap, DL.oNone_ap, DL.oSome_ap, DL.eChain_ap, DL.tB_ap, DL.tTru_ap, DL.tAndD_ap, DL.tOrD_ap, DL.tNotD_ap, DL.tYesD_ap, DL.dBool_bl, DL.dTru_bl, DL.isNon_non, DL.isNon_int, DL.isNon_tup, DL.sNx_ap, DL.sSeq_ap, DL.sRet_ap, DL.sExp_ap, DL.sAsg_ap, DL.sIf_ap, DL.sFor_ap, DL.sWhile_ap, DL.sAug_ap, DL.sUp_ap, DL.sPar_ap, DL.own_0, DL.own_s, DL.gV_ap, DL.gT_ap, DL.gsN_ap, DL.gsC_ap, DL.iOf_ap, DL.iRng1D_ap, DL.iRng2D_ap, DL.dItems_tup, DL.dItems_lst, DL.calmR_ok, DL.calm_ap, DL.eComp_ap, DL.ownLst_0, DL.ownLst_s, DL.sApp_ap, DL.compB_ap, DL.hide_nil, DL.hide_no, DL.hide_val, DL.hide_own, DL.hide_j, DL.wipeD_nil, DL.wipeD_cons, DL.runD_ap, DL.runI_ap, DL.forD_nil, DL.eOwn2_ap, DL.e2M_ap, DL.e1M_ap, DL.mOwn_ap, DL.mOwn1_ap, DL.optK_bl, DL.mOwnIn_ap, DL.tOwn_ap, DL.eNotT_ap, DL.eBoolO_ap, DL.iZipD_ap, DL.sOwnN_ap, DL.cutK_lst, DL.nCut_ap, DL.nLst_ap, DL.sFrz_ap, DL.eIxT_ap, DL.sPutT_ap, DL.sOwn2_ap, DL.sOwn_ap, DL.nComp_ap, DL.nAdd_ap, DL.eIdx_ap, DL.isLst_lst, DL.eOwnIx_ap, DL.sPutL_ap, DL.sExtM_ap, DL.sExt_ap, DL.sBk_ap, DL.eChain3_ap, DL.nLstOf_ap, DL.itemsLT_lst, DL.itemsLT_tup, DL.iEnumD_ap, DL.dEnum_lst, DL.dEnum_tup, DL.sPutL2_ap, DL.putE_ap, DL.two_tup, DL.dAdd_int, DL.dSub_int, DL.dNeg_int, DL.dLen_tup, DL.dLen_lst, DL.lt_t, DL.lt_f, DL.gt_t, DL.gt_f, DL.ge_t, DL.ge_f, DL.le_t, DL.le_f, DL.eq_t, DL.eq_f, DL.ne_t, DL.ne_f, DL.mulR, DL.mulL, DL.mulNR, DL.mulNL, DL.dMod_int, DL.dDiv_int, DL.tru_bl, DL.iL_len, DL.iL_items, DL.fst2, DL.snd2, DL.fst3, DL.snd3, DL.trd3, DL.all_nil, DL.mkTup_of, DL.mkLst_of, List.map_cons, List.map_nil, List.cons_append, List.nil_append, List.set_cons_zero, List.set_cons_succ, List.length_cons, List.length_nil, List.length_map, List.length_range, List.replicate_succ, List.replicate_zero, List.foldl_cons, List.foldl_nil, List.zip_cons_cons, List.zip_nil_right, Option.bind_some, Option.bind_none, Bool.not_true, Bool.not_false, Bool.and_true, Bool.true_and, Bool.and_false, Bool.false_and, Bool.or_true, Bool.true_or, Bool.or_false, Bool.false_or, if_true, if_false, $ts,*])
namespace K57
open DL PySem L2 P_k57_whole_spread PyProof.Rows
theorem gcd_run (n : Int) (s0 s1 : Sl) : ∀ (f a b : Nat), b < f → whileD (tB (e2 dNe (eVar 3) (eC (.int 0)))) (sPar [2, 3] (eCons (eVar 3) (eCons (e2 dMod (eVar 2) (eVar 3)) eNil))) f [s0, s1, .val (.int a), .val (.int b)] n = some (.ok (.nx [s0, s1, .val (.int (Nat.gcd a b : Nat)), .val (.int 0)]), n)
  | 0, a, b, h => absurd h (by omega)
  | f + 1, a, b, h => by
    rw [whileD_s]
    by_cases c : b = 0
    · subst c
      simp
    · have hb : (0 : Int) < (b : Int) := by omega
      have dm := dMod_int (i := (a : Int)) hb
      have e : (a : Int) % (b : Int) = ((a % b : Nat) : Int) := by omega
      rw [e] at dm
      have lt : a % b < b := Nat.mod_lt _ (by omega)
      have ih := gcd_run n s0 s1 f b (a % b) (by omega)
      have g : Nat.gcd b (a % b) = Nat.gcd a b := by rw [Nat.gcd_comm b, ← Nat.gcd_rec, Nat.gcd_comm]
      rw [g] at ih
      generalize a % b = r at *
      have c' : ¬ ((b : Int) = 0) := by omega
      simp [c, dm]
      exact ih
def lcmP (a b : Nat) : Nat := a / Nat.gcd a b * b
theorem common_ok (a b : Nat) (ha : 1 ≤ a) (hb : 1 ≤ b) (ha2 : a ≤ 5040) (hb2 : b ≤ 5040) (n : Int) : f_common [.int a, .int b] n = some (.ok (.int (lcmP a b : Nat)), n) := by
  have r := gcd_run n (.val (.int a)) (.val (.int b)) 1000000 a b (by omega)
  have gp : 0 < Nat.gcd a b := Nat.gcd_pos_of_pos_left _ ha
  have gl : Nat.gcd a b ≤ a := Nat.gcd_le_left _ ha
  have dd := dDiv_int (i := (a : Int)) (j := ((Nat.gcd a b : Nat) : Int)) (by omega) (by omega)
  have e : (a : Int) / ((Nat.gcd a b : Nat) : Int) = ((a / Nat.gcd a b : Nat) : Int) := by omega
  rw [e] at dd
  have mm := dMul_int (i := ((a / Nat.gcd a b : Nat) : Int)) (j := (b : Int)) (.inr (small64_of (by omega) (by omega)))
  have e2 : ((a / Nat.gcd a b : Nat) : Int) * (b : Int) = ((lcmP a b : Nat) : Int) := by unfold lcmP; exact (Int.natCast_mul _ _).symm
  rw [e2] at mm
  generalize lcmP a b = L at *
  generalize a / Nat.gcd a b = Q at *
  generalize Nat.gcd a b = G at *
  simp only [f_common, g_common]
  simp
  simp [r, dd, mm]
/-- a small row: its group takes one or two loops and makes no more -/
def Sm (r : Row) : Prop := ∃ b g a, r = rw3 b g a ∧ rowB b g a = true ∧ g ≠ [] ∧ (K57.T g = 1 ∨ K57.T g = 2) ∧ K57.M g ≤ K57.T g
theorem Sm.ow {r : Row} (h : Sm r) : Ow r := by
  obtain ⟨b, g, a, e, h, _⟩ := h
  exact ⟨b, g, a, e, h⟩
def odd (r : Row) : Nat := if evR r then 0 else 1
def MRb : SX := (sIf (tB (e2 dNe (e2 dIx (eVar 5) (eC (.int 1))) (eTup eNil))) (sSeq (sAsg (gV 3) (eCall (f_common) (eCons (eVar 3) (eCons (eCall (f_takes) (eCons (e2 dIx (eVar 5) (eC (.int 1))) eNil)) eNil))))
  (sAug 2 dMulN (eIf (tTru (eCall (f_is_even) (eCons (eVar 5) eNil))) (eC (.int 1)) (eCall (f_takes) (eCons (e2 dIx (eVar 5) (eC (.int 1))) eNil))))) sNx)
def MEn (P : D) (f p s : Nat) (s4 s5 : Sl) : DL.Env := [.val P, .val (.int f), .val (.int p), .val (.int s), s4, s5]
theorem mr_run {r : Row} (h : Sm r) (P : D) (f p s : Nat) (hs : s = 1 ∨ s = 2) (hp : 1 ≤ p ∧ p ≤ 100000) (s4 : Sl) (n : Int) :
    ∃ s' p', (s' = 1 ∨ s' = 2) ∧ 1 ≤ p' ∧ p' ≤ 2 ^ odd r * p ∧ MRb (MEn P f p s s4 (.val (PyE.enc r))) n = some (.ok (.nx (MEn P f p' s' s4 (.val (PyE.enc r)))), n) := by
  have ev := even_ok h.ow n
  obtain ⟨b, g, a, rfl, hb, g0, gt, gm⟩ := h
  obtain ⟨l1, l2, l3⟩ := rowB_len hb
  have t := takes_ok g (by omega) n
  have x1 : dIx (PyE.enc (rw3 b g a)) (.int 1) = some (encT g) := rfl
  have n1 := dNe_T g ([] : Word)
  have e0 : encT ([] : Word) = .tup [] := rfl
  rw [e0, decide_eq_false g0] at n1
  obtain ⟨s', h1, h2⟩ : ∃ s', (s' = 1 ∨ s' = 2) ∧ lcmP s (K57.T g) = s' := by
    rcases hs with rfl | rfl <;> rcases gt with gt | gt <;> rw [gt] <;> exact ⟨_, by decide, rfl⟩
  have c := common_ok s (K57.T g) (by omega) (by omega) (by omega) (by omega) n
  rw [h2] at c
  cases q : evR (rw3 b g a) with
  | true =>
    rw [q] at ev
    have o : odd (rw3 b g a) = 0 := by unfold odd; rw [q]; rfl
    refine ⟨s', p, h1, hp.1, by rw [o]; omega, ?_⟩
    unfold MRb MEn
    simp_arith [x1, n1, t, c, ev, Int.mul_one]
  | false =>
    rw [q] at ev
    have o : odd (rw3 b g a) = 1 := by unfold odd; rw [q]; rfl
    refine ⟨s', p * K57.T g, h1, ?_, ?_, ?_⟩
    · rcases gt with gt | gt <;> rw [gt] <;> omega
    · rw [o]; rcases gt with gt | gt <;> rw [gt] <;> omega
    · unfold MRb MEn
      rw [Int.natCast_mul]
      simp_arith [x1, n1, t, c, ev]
/-- a small part -/
def Sp (p : Part) : Prop := Op p ∧ (∀ r ∈ prs p, Sm r) ∧ ∀ t rs, p = .blk t rs → rs.length = 1
def oddP (p : Part) : Nat := ((prs p).map odd).sum
def MPb : SX := (sSeq (sIf (tB (e2 dEq (e2 dIx (eVar 4) (eC (.int 0))) (eC (.str "block")))) (sAsg (gV 1) (eCall (f_common) (eCons (eVar 1) (eCons (e2 dMul (e2 dAdd (eC (.int 2)) (e2 dMul (eC (.int 2)) (e2 dMod (eB dLen (eCons (e2 dIx (eVar 4) (eC (.int 2))) eNil)) (eC (.int 2))))) (eB dLen (eCons (e2 dIx (eVar 4) (eC (.int 2))) eNil))) eNil)))) sNx)
  (sFor (gV 5) (iOf (eCall (f_rows_of) (eCons (eVar 4) eNil))) MRb))
theorem mrs_run (P : D) (f : Nat) (s4 : Sl) (n : Int) : ∀ (rs : List Row) (p s : Nat) (s5 : Sl), (∀ r ∈ rs, Sm r) → (s = 1 ∨ s = 2) → 1 ≤ p → 2 ^ (rs.map odd).sum * p ≤ 100000 → ∃ s' p' s5', (s' = 1 ∨ s' = 2) ∧ 1 ≤ p' ∧ p' ≤ 2 ^ (rs.map odd).sum * p ∧ forD (gV 5) MRb (rs.map PyE.enc) (MEn P f p s s4 s5) n = some (.ok (.nx (MEn P f p' s' s4 s5')), n)
  | [], p, s, s5, _, hs, hp, _ => ⟨s, p, s5, hs, hp, by simp, rfl⟩
  | r :: rs, p, s, s5, hr, hs, hp, hb => by
    rw [List.map_cons, List.sum_cons, Nat.pow_add] at hb
    have two : 1 ≤ 2 ^ (rs.map odd).sum := Nat.pow_pos (by omega)
    have b1 : 2 ^ odd r * p ≤ 100000 := by
      refine Nat.le_trans ?_ hb
      rw [Nat.mul_right_comm]
      exact Nat.le_mul_of_pos_right _ two
    have b2 : p ≤ 100000 := Nat.le_trans (Nat.le_mul_of_pos_left _ (Nat.pow_pos (by omega))) b1
    obtain ⟨s', p', h1, h2, h3, h4⟩ := mr_run (hr r List.mem_cons_self) P f p s hs ⟨hp, b2⟩ s4 n
    have b3 : 2 ^ (rs.map odd).sum * p' ≤ 2 ^ (rs.map odd).sum * (2 ^ odd r * p) := Nat.mul_le_mul_left _ h3
    have b4 : 2 ^ (rs.map odd).sum * (2 ^ odd r * p) = 2 ^ odd r * 2 ^ (rs.map odd).sum * p := by rw [← Nat.mul_assoc, Nat.mul_comm (2 ^ (rs.map odd).sum)]
    obtain ⟨s'', p'', s5', k1, k2, k3, k4⟩ := mrs_run P f s4 n rs p' s' (.val (PyE.enc r)) (fun x hx => hr x (List.mem_cons_of_mem _ hx)) h1 h2 (by omega)
    refine ⟨s'', p'', s5', k1, k2, ?_, ?_⟩
    · rw [List.map_cons, List.sum_cons, Nat.pow_add]; omega
    · rw [List.map_cons, forD_cons]
      have : gV 5 (PyE.enc r) (MEn P f p s s4 s5) = some (MEn P f p s s4 (.val (PyE.enc r))) := rfl
      rw [bind_ap, this, opt_some, bindR_ok, bind_ap, h4, bindR_ok, turnK_nx, k4]
theorem mp_run {q : Part} (h : Sp q) (P : D) (f p s : Nat) (hf : f = 2 ∨ f = 4) (hs : s = 1 ∨ s = 2) (hp : 1 ≤ p) (hb : 2 ^ oddP q * p ≤ 100000) (s5 : Sl) (n : Int) :
    ∃ f' s' p' s5', (f' = 2 ∨ f' = 4) ∧ (s' = 1 ∨ s' = 2) ∧ 1 ≤ p' ∧ p' ≤ 2 ^ oddP q * p ∧ MPb (MEn P f p s (.val (pD q)) s5) n = some (.ok (.nx (MEn P f' p' s' (.val (pD q)) s5')), n) := by
  have ro := rows_ok q n
  obtain ⟨h1, h2, h3⟩ := h
  have it : dItems (encT (prs q)) = some ((prs q).map PyE.enc) := rfl
  have rest : ∀ f, ∃ s' p' s5', (s' = 1 ∨ s' = 2) ∧ 1 ≤ p' ∧ p' ≤ 2 ^ oddP q * p ∧ (sFor (gV 5) (iOf (eCall (f_rows_of) (eCons (eVar 4) eNil))) MRb) (MEn P f p s (.val (pD q)) s5) n = some (.ok (.nx (MEn P f p' s' (.val (pD q)) s5')), n) := fun f => by
    obtain ⟨s', p', s5', k1, k2, k3, k4⟩ := mrs_run P f (.val (pD q)) n (prs q) p s s5 h2 hs hp hb
    refine ⟨s', p', s5', k1, k2, k3, ?_⟩
    rw [← k4]
    unfold MEn
    simp_arith [ro, it]
  cases q with
  | row r =>
    obtain ⟨s', p', s5', k1, k2, k3, k4⟩ := rest f
    refine ⟨f, s', p', s5', hf, k1, k2, k3, ?_⟩
    have x0 : dIx (pD (.row r)) (.int 0) = some (.str "row") := rfl
    refine sq (ρ1 := MEn P f p s (.val (pD (.row r))) s5) (n1 := n) ?_ k4
    unfold MEn
    simp_arith [x0, s_rb]
  | blk t rs =>
    have l1 := h3 t rs rfl
    obtain ⟨f', g1, g2⟩ : ∃ f', (f' = 2 ∨ f' = 4) ∧ lcmP f 4 = f' := by
      rcases hf with rfl | rfl <;> exact ⟨_, by decide, rfl⟩
    have c := common_ok f 4 (by omega) (by omega) (by omega) (by omega) n
    rw [g2] at c
    obtain ⟨s', p', s5', k1, k2, k3, k4⟩ := rest f'
    refine ⟨f', s', p', s5', g1, k1, k2, k3, ?_⟩
    have x0 : dIx (pD (.blk t rs)) (.int 0) = some (.str "block") := rfl
    have x2 : dIx (pD (.blk t rs)) (.int 2) = some (encT rs) := rfl
    have l := dLen_T rs
    rw [l1] at l
    have ar : (2 + 2 * (((1 : Nat) : Int) % 2)) * ((1 : Nat) : Int) = ((4 : Nat) : Int) := by decide
    refine sq (ρ1 := MEn P f' p s (.val (pD (.blk t rs))) s5) (n1 := n) ?_ k4
    unfold MEn
    simp_arith [x0, x2, l, s_bb, ar, c]
theorem mps_run (P : D) (n : Int) : ∀ (qs : List Part) (f p s : Nat) (s4 s5 : Sl), (∀ q ∈ qs, Sp q) → (f = 2 ∨ f = 4) → (s = 1 ∨ s = 2) → 1 ≤ p → 2 ^ (qs.map oddP).sum * p ≤ 100000 → ∃ f' s' p' s4' s5', (f' = 2 ∨ f' = 4) ∧ (s' = 1 ∨ s' = 2) ∧ 1 ≤ p' ∧ p' ≤ 2 ^ (qs.map oddP).sum * p ∧ forD (gV 4) MPb (qs.map pD) (MEn P f p s s4 s5) n = some (.ok (.nx (MEn P f' p' s' s4' s5')), n)
  | [], f, p, s, s4, s5, _, hf, hs, hp, _ => ⟨f, s, p, s4, s5, hf, hs, hp, by simp, rfl⟩
  | q :: qs, f, p, s, s4, s5, hr, hf, hs, hp, hb => by
    rw [List.map_cons, List.sum_cons, Nat.pow_add] at hb
    have two : 1 ≤ 2 ^ (qs.map oddP).sum := Nat.pow_pos (by omega)
    have b1 : 2 ^ oddP q * p ≤ 100000 := by
      refine Nat.le_trans ?_ hb
      rw [Nat.mul_right_comm]
      exact Nat.le_mul_of_pos_right _ two
    obtain ⟨f', s', p', s5', h0, h1, h2, h3, h4⟩ := mp_run (hr q List.mem_cons_self) P f p s hf hs hp b1 s5 n
    have b3 : 2 ^ (qs.map oddP).sum * p' ≤ 2 ^ (qs.map oddP).sum * (2 ^ oddP q * p) := Nat.mul_le_mul_left _ h3
    have b4 : 2 ^ (qs.map oddP).sum * (2 ^ oddP q * p) = 2 ^ oddP q * 2 ^ (qs.map oddP).sum * p := by rw [← Nat.mul_assoc, Nat.mul_comm (2 ^ (qs.map oddP).sum)]
    obtain ⟨f'', s'', p'', s4', s5'', k0, k1, k2, k3, k4⟩ := mps_run P n qs f' p' s' (.val (pD q)) s5' (fun x hx => hr x (List.mem_cons_of_mem _ hx)) h0 h1 h2 (by omega)
    refine ⟨f'', s'', p'', s4', s5'', k0, k1, k2, ?_, ?_⟩
    · rw [List.map_cons, List.sum_cons, Nat.pow_add]; omega
    · rw [List.map_cons, forD_cons]
      have : gV 4 (pD q) (MEn P f p s s4 s5) = some (MEn P f p s (.val (pD q)) s5) := rfl
      rw [bind_ap, this, opt_some, bindR_ok, bind_ap, h4, bindR_ok, turnK_nx, k4]
/-- the measure of small parts is small -/
theorem measure_ok {qs : List Part} (h : ∀ q ∈ qs, Sp q) (ho : (qs.map oddP).sum ≤ 3) (n : Int) : ∃ m : Int, m ≤ 120 ∧ f_measure_of [.tup (qs.map pD)] n = some (.ok (.int m), n) := by
  have b : 2 ^ (qs.map oddP).sum ≤ 2 ^ 3 := Nat.pow_le_pow_right (by omega) ho
  obtain ⟨f, s, p, s4, s5, h0, h1, h2, h3, h4⟩ := mps_run (.tup (qs.map pD)) n qs 2 1 1 .no .no h (.inl rfl) (.inl rfl) (by omega) (by omega)
  have c := common_ok f (p * s) (by omega) (Nat.mul_pos h2 (by omega)) (by omega) (by rcases h1 with rfl | rfl <;> omega) n
  refine ⟨((lcmP f (p * s) : Nat) : Int), ?_, ?_⟩
  rotate_left
  · rw [Int.natCast_mul] at c
    replace h4 : forD (gV 4) MPb (qs.map pD) [.val (.tup (qs.map pD)), .val (.int 2), .val (.int 1), .val (.int 1), .no, .no] n = some (.ok (.nx (MEn (.tup (qs.map pD)) f p s s4 s5)), n) := h4
    unfold MPb MRb MEn at h4
    simp only [f_measure_of, g_measure_of]
    simp_arith [h4, c]
  · have : lcmP f (p * s) ≤ f * (p * s) := by
      unfold lcmP
      exact Nat.mul_le_mul_right _ (Nat.div_le_self _ _)
    have e : p * s ≤ 8 * 2 := Nat.mul_le_mul (by omega) (by omega)
    have : f * (p * s) ≤ 4 * 16 := Nat.mul_le_mul (by omega) e
    omega
end K57
end

section
set_option Elab.async false
set_option linter.all false
set_option autoImplicit false
set_option maxRecDepth 100000
set_option maxHeartbeats 400000
local macro_rules
  | `(tactic| simp_arith [$ts,*]) => `(tactic| simp (disch := first | omega | (simp only [List.length_cons, List.length_nil, List.length_map, List.length_range, List.length_append] <;> omega) | assumption) only [DL.bind_ap, DL.pure_ap, DL.opt_some, DL.opt_none, DL.bindR_ok, DL.bindR_none, DL.bindR_err, DL.bindR_assoc, DL.selB_true, DL.selB_false, DL.seqK_nx, DL.seqK_bk, DL.seqK_ct, DL.seqK_ret, DL.runK_ret, DL.runK_nx, DL.runIK_nx, DL.turnK_nx, DL.turnK_ct, DL.turnK_bk, DL.turnK_ret, DL.makeK_obj, DL.intK_int, DL.chainK_true, DL.chainK_false, DL.consO_some, DL.consO_none, DL.eVar_0, DL.eVar_s, DL.eC_ap, DL.eNil_ap, DL.eCons_ap, DL.eTup_ap, DL.eLst_ap, DL.e2_ap, DL.e1_ap, DL.eB_ap, DL.eCall_ap, DL.eMake_ap, DL.eMeth_ap, DL.eIf_ap, DL.eAnd_ap, DL.eOr_ap, DL.eNot_ap, DL.eCut_ap, DL.oNone_ap, DL.oSome_ap, DL.eChain_ap, DL.tB_ap, DL.tTru_ap, DL.tAndD_ap, DL.tOrD_ap, DL.tNotD_ap, DL.tYesD_ap, DL.dBool_bl, DL.dTru_bl, DL.isNon_non, DL.isNon_int, DL.isNon_tup, DL.sNx_ap, DL.sSeq_ap, DL.sRet_ap, DL.sExp_ap, DL.sAsg_ap, DL.sIf_ap, DL.sFor_ap, DL.sWhile_ap, DL.sAug_ap, DL.sUp_ap, DL.sPar_ap, DL.own_0, DL.own_s, DL.gV_ap, DL.gT_ap, DL.gsN_ap, DL.gsC_ap, DL.iOf_ap, DL.iRng1D_ap, DL.iRng2D_ap, DL.dItems_tup, DL.dItems_lst, DL.calmR_ok, DL.calm_ap, DL.eComp_ap, DL.ownLst_0, DL.ownLst_s, DL.sApp_ap, DL.compB_ap, DL.hide_nil, DL.hide_no, DL.hide_val, DL.hide_own, DL.hide_j, DL.wipeD_nil, DL.wipeD_cons, DL.runD_ap, DL.runI_ap, DL.forD_nil, DL.eOwn2_ap, DL.e2M_ap, DL.e1M_ap, DL.mOwn_ap, DL.mOwn1_ap, DL.optK_bl, DL.mOwnIn_ap, DL.tOwn_ap, DL.eNotT_ap, DL.eBoolO_ap, DL.iZipD_ap, DL.sOwnN_ap, DL.cutK_lst, DL.nCut_ap, DL.nLst_ap, DL.sFrz_ap, DL.eIxT_ap, DL.sPutT_ap, DL.sOwn2_ap, DL.sOwn_ap, DL.nComp_ap, DL.nAdd_ap, DL.eIdx_ap, DL.isLst_lst, DL.eOwnIx_ap, DL.sPutL_ap, DL.sExtM_ap, DL.sExt_ap, DL.sBk_ap, DL.eChain3_ap, DL.nLstOf_ap, DL.itemsLT_lst, DL.itemsLT_tup, DL.iEnumD_ap, DL.dEnum_lst, DL.dEnum_tup, DL.sPutL2_ap, DL.putE_ap, DL.two_tup, DL.dAdd_int, DL.dSub_int, DL.dNeg_int, DL.dLen_tup, DL.dLen_lst, DL.lt_t, DL.lt_f, DL.gt_t, DL.gt_f, DL.ge_t, DL.ge_f, DL.le_t, DL.le_f, DL.eq_t, DL.eq_f, DL.ne_t, DL.ne_f, DL.mulR, DL.mulL, DL.mulNR, DL.mulNL, DL.dMod_int, DL.dDiv_int, DL.tru_bl, DL.iL_len, DL.iL_items, DL.fst2, DL.snd2, DL.fst3, DL.snd3, DL.trd3, DL.all_nil, DL.mkTup_of, DL.mkLst_of, List.map_cons, List.map_nil, List.cons_append, List.nil_append, List.set_cons_zero, List.set_cons_succ, List.length_cons, List.length_nil, List.length_map, List.length_range, List.replicate_succ, List.replicate_zero, List.foldl_cons, List.foldl_nil, List.zip_cons_cons, List.zip_nil_right, Option.bind_some, Option.bind_none, Bool.not_true, Bool.not_false, Bool.and_true, Bool.true_and, Bool.and_false, Bool.false_and, Bool.or_true, Bool.true_or, Bool.or_false, Bool.false_or, if_true, if_false, $ts,*])
namespace K57
open DL PySem L2 P_k57_whole_spread PyProof.Rows
/-! ### schedules -/
def pr (a b : Int) : D := .tup [.int a, .int b]
def plan (r t : Int) : List (Int × Int) := if r % t = 0 then [(r / t, t)] else [(r / t, t - r % t), (r / t + 1, r % t)]
theorem schedule_ok (r t : Int) (h1 : 1 ≤ t) (h2 : t ≤ r) (h3 : r ≤ 10000) (n : Int) : f_schedule [.int r, .int t] n = some (.ok (.lst ((plan r t).map fun p => pr p.1 p.2)), n) := by
  have m0 := Int.emod_nonneg r (b := t) (by omega)
  have m1 := Int.emod_lt_of_pos r (b := t) (by omega)
  have nr := num_ok r n
  have nt := num_ok t n
  simp only [f_schedule, g_schedule]
  by_cases z : r % t = 0
  · unfold plan pr
    rw [if_pos z]
    simp_arith [nr, nt, compD_cons, compD_nil, z, Int.sub_zero]
  · unfold plan pr
    rw [if_neg z]
    simp_arith [nr, nt, compD_cons, compD_nil]
theorem dSum1 (a : Int) : dSum [.lst [.int a]] = some (.int a) := by
  have := sum_int [a]
  simpa using this
theorem dSum2 (a b : Int) : dSum [.lst [.int a, .int b]] = some (.int (a + b)) := by
  have := sum_int [a, b]
  simpa using this
theorem dMin1 (a : Int) : dMinL [.lst [.int a]] = some (.int a) := rfl
theorem dMin2 (a b : Int) : dMinL [.lst [.int a, .int b]] = some (.int (if b < a then b else a)) := rfl
theorem sort1 (a : Int) : dSortSet (.lst [.int a]) = some (.lst [.int a]) := by
  have : dInts [D.int a] = some [a] := rfl
  unfold dSortSet
  simp only [this]
  rw [if_pos ⟨by simp, by simp⟩]
  rfl
theorem sort2 (a b : Int) (h : a < b) : dSortSet (.lst [.int a, .int b]) = some (.lst [.int a, .int b]) := by
  have : dInts [D.int a, D.int b] = some [a, b] := rfl
  unfold dSortSet
  simp only [this]
  rw [if_pos ⟨by simp, by simp; omega⟩]
  have : srt leZ [a, b] = [a, b] := by simp [srt, ins, leZ]; omega
  rw [this]
  rfl
theorem ne_lst (xs : List Int) : dNe (.lst (xs.map D.int)) (.lst (xs.map D.int)) = some (.bl false) := by
  have h := dNe_L xs xs
  rw [decide_eq_true rfl] at h
  exact h
theorem ne1 (a : Int) : dNe (.lst [.int a]) (.lst [.int a]) = some (.bl false) := ne_lst [a]
theorem ne2 (a b : Int) : dNe (.lst [.int a, .int b]) (.lst [.int a, .int b]) = some (.bl false) := ne_lst [a, b]
theorem ixm1 (x : D) : dIx (.lst [x]) (.int (-1)) = some x := rfl
theorem ixm2 (x y : D) : dIx (.lst [x, y]) (.int (-1)) = some y := rfl
theorem ix01 (x : D) : dIx (.lst [x]) (.int 0) = some x := rfl
theorem ix02 (x y : D) : dIx (.lst [x, y]) (.int 0) = some x := rfl
def S1 : SX := (sIf (tOrD (tB (e2 dNe (eB dSum (eCons (eComp [17, 18] (gT (gsC (gV 17) (gsC (gV 18) gsN))) (iOf (eVar 14)) tYesD (e2 dMul (eVar 17) (eVar 18))) eNil)) (eVar 13))) (tB (e2 dNe (eB dSum (eCons (eComp [17, 18] (gT (gsC (gV 17) (gsC (gV 18) gsN))) (iOf (eVar 14)) tYesD (eVar 18)) eNil)) (eVar 12)))) (sRet (eC (.bl false))) sNx)
def S2 : SX := (sIf (tB (e2 dNe (eComp [17, 18] (gT (gsC (gV 17) (gsC (gV 18) gsN))) (iOf (eVar 14)) tYesD (eVar 17)) (e1 dSortSet (eComp [17, 18] (gT (gsC (gV 17) (gsC (gV 18) gsN))) (iOf (eVar 14)) tYesD (eVar 17))))) (sRet (eC (.bl false))) sNx)
def S3 : SX := (sIf (tOrD (tB (e2 dGt (e2 dIx (e2 dIx (eVar 14) (e1 dNeg (eC (.int 1)))) (eC (.int 0))) (e2 dAdd (e2 dIx (e2 dIx (eVar 14) (eC (.int 0))) (eC (.int 0))) (eC (.int 1))))) (tB (e2 dLt (eB dMinL (eCons (eComp [17, 18] (gT (gsC (gV 17) (gsC (gV 18) gsN))) (iOf (eVar 14)) tYesD (eVar 18)) eNil)) (eC (.int 1))))) (sRet (eC (.bl false))) sNx)
/-- the law's variables -/
def LE (s3 s4 s5 s6 s7 s8 s9 s10 s11 s12 s13 s14 s15 s16 s17 s18 : Sl) : DL.Env := [.val .scr, .val .drw, .val KT, s3, s4, s5, s6, s7, s8, s9, s10, s11, s12, s13, s14, s15, s16, s17, s18]
theorem sched_law (i : Int) (o4 o5 o6 o7 o8 o9 o10 o11 o15 o16 o17 o18 : Option D) (r t : Int) (h1 : 1 ≤ t) (h2 : t ≤ r) (h3 : r ≤ 10000) (n : Int) :
    sSeq S1 (sSeq S2 S3) (LE (.val (.int i)) (jS o4) (jS o5) (jS o6) (jS o7) (jS o8) (jS o9) (jS o10) (jS o11) (.val (.int t)) (.val (.int r)) (.val (.lst ((plan r t).map fun p => pr p.1 p.2))) (jS o15) (jS o16) (jS o17) (jS o18)) n = some (.ok (.nx (LE (.val (.int i)) (jS o4) (jS o5) (jS o6) (jS o7) (jS o8) (jS o9) (jS o10) (jS o11) (.val (.int t)) (.val (.int r)) (.val (.lst ((plan r t).map fun p => pr p.1 p.2))) (jS o15) (jS o16) (jS o17) (jS o18))), n) := by
  have m0 := Int.emod_nonneg r (b := t) (by omega)
  have m1 := Int.emod_lt_of_pos r (b := t) (by omega)
  have dm := Int.mul_ediv_add_emod r t
  unfold plan S1 S2 S3 LE
  by_cases z : r % t = 0
  · rw [if_pos z]
    have e : r / t * t = r := by rw [Int.mul_comm]; omega
    unfold pr
    generalize r / t = q at *
    simp_arith [compD_cons, compD_nil, dSum1, dMin1, sort1, ne1, ixm1, ix01, e]
  · rw [if_neg z]
    have e : r / t * (t - r % t) + (r / t + 1) * (r % t) = r := by
      rw [Int.mul_sub, Int.add_mul, Int.mul_comm (r / t) t]; omega
    have e2 : t - r % t + r % t = t := by omega
    have mn : ∃ z, dMinL [.lst [.int (t - r % t), .int (r % t)]] = some (.int z) ∧ 1 ≤ z := by
      rw [dMin2]
      refine ⟨_, rfl, ?_⟩
      split <;> omega
    obtain ⟨mz, mn, m1⟩ := mn
    unfold pr
    generalize r / t = q at *
    simp_arith [compD_cons, compD_nil, dSum2, mn, sort2, ne2, ixm2, ix02, e, e2]
end K57
end

section
set_option Elab.async false
set_option linter.all false
set_option autoImplicit false
set_option maxRecDepth 100000
set_option maxHeartbeats 400000
local macro_rules
  | `(tactic| simp_arith [$ts,*]) => `(tactic| simp (disch := first | omega | (simp only [List.length_cons, List.length_nil, List.length_map, List.length_range, List.length_append] <;> omega) | assumption) only [DL.bind_ap, DL.pure_ap, DL.opt_some, DL.opt_none, DL.bindR_ok, DL.bindR_none, DL.bindR_err, DL.bindR_assoc, DL.selB_true, DL.selB_false, DL.seqK_nx, DL.seqK_bk, DL.seqK_ct, DL.seqK_ret, DL.runK_ret, DL.runK_nx, DL.runIK_nx, DL.turnK_nx, DL.turnK_ct, DL.turnK_bk, DL.turnK_ret, DL.makeK_obj, DL.intK_int, DL.chainK_true, DL.chainK_false, DL.consO_some, DL.consO_none, DL.eVar_0, DL.eVar_s, DL.eC_ap, DL.eNil_ap, DL.eCons_ap, DL.eTup_ap, DL.eLst_ap, DL.e2_ap, DL.e1_ap, DL.eB_ap, DL.eCall_ap, DL.eMake_ap, DL.eMeth_ap, DL.eIf_ap, DL.eAnd_ap, DL.eOr_ap, DL.eNot_ap, DL.eCut_ap, DL.oNone_ap, DL.oSome_ap, DL.eChain_ap, DL.tB_ap, DL.tTru_ap, DL.tAndD_ap, DL.tOrD_ap, DL.tNotD_ap, DL.tYesD_ap, DL.dBool_bl, DL.dTru_bl, DL.isNon_non, DL.isNon_int, DL.isNon_tup, DL.sNx_ap, DL.sSeq_ap, DL.sRet_ap, DL.sExp_ap, DL.sAsg_ap, DL.sIf_ap, DL.sFor_ap, DL.sWhile_ap, DL.sAug_ap, DL.sUp_ap, DL.sPar_ap, DL.own_0, DL.own_s, DL.gV_ap, DL.gT_ap, DL.gsN_ap, DL.gsC_ap, DL.iOf_ap, DL.iRng1D_ap, DL.iRng2D_ap, DL.dItems_tup, DL.dItems_lst, DL.calmR_ok, DL.calm_ap, DL.eComp_ap, DL.ownLst_0, DL.ownLst_s, DL.sApp_ap, DL.compB_ap, DL.hide_nil, DL.hide_no, DL.hide_val, DL.hide_own, DL.hide_j, DL.wipeD_nil, DL.wipeD_cons, DL.runD_ap, DL.runI_ap, DL.forD_nil, DL.eOwn2_ap, DL.e2M_ap, DL.e1M_ap, DL.mOwn_ap, DL.mOwn1_ap, DL.optK_bl, DL.mOwnIn_ap, DL.tOwn_ap, DL.eNotT_ap, DL.eBoolO_ap, DL.iZipD_ap, DL.sOwnN_ap, DL.cutK_lst, DL.nCut_ap, DL.nLst_ap, DL.sFrz_ap, DL.eIxT_ap, DL.sPutT_ap, DL.sOwn2_ap, DL.sOwn_ap, DL.nComp_ap, DL.nAdd_ap, DL.eIdx_ap, DL.isLst_lst, DL.eOwnIx_ap, DL.sPutL_ap, DL.sExtM_ap, DL.sExt_ap, DL.sBk_ap, DL.eChain3_ap, DL.nLstOf_ap, DL.itemsLT_lst, DL.itemsLT_tup, DL.iEnumD_ap, DL.dEnum_lst, DL.dEnum_tup, DL.sPutL2_ap, DL.putE_ap, DL.two_tup, DL.dAdd_int, DL.dSub_int, DL.dNeg_int, DL.dLen_tup, DL.dLen_lst, DL.lt_t, DL.lt_f, DL.gt_t, DL.gt_f, DL.ge_t, DL.ge_f, DL.le_t, DL.le_f, DL.eq_t, DL.eq_f, DL.ne_t, DL.ne_f, DL.mulR, DL.mulL, DL.mulNR, DL.mulNL, DL.dMod_int, DL.dDiv_int, DL.tru_bl, DL.iL_len, DL.iL_items, DL.fst2, DL.snd2, DL.fst3, DL.snd3, DL.trd3, DL.all_nil, DL.mkTup_of, DL.mkLst_of, List.map_cons, List.map_nil, List.cons_append, List.nil_append, List.set_cons_zero, List.set_cons_succ, List.length_cons, List.length_nil, List.length_map, List.length_range, List.replicate_succ, List.replicate_zero, List.foldl_cons, List.foldl_nil, List.zip_cons_cons, List.zip_nil_right, Option.bind_some, Option.bind_none, Bool.not_true, Bool.not_false, Bool.and_true, Bool.true_and, Bool.and_false, Bool.false_and, Bool.or_true, Bool.true_or, Bool.or_false, Bool.false_or, if_true, if_false, $ts,*])
namespace K57
open DL PySem L2 P_k57_whole_spread PyProof.Rows
/-! ### pieces -/
theorem gr_row {r : Row} (h : Sm r) (P q : D) (n : Int) : (sAug 1 dMulN (eIf (tB (e2 dGt (eCall (f_makes) (eCons (e2 dIx (eVar 3) (eC (.int 1))) eNil)) (eCall (f_takes) (eCons (e2 dIx (eVar 3) (eC (.int 1))) eNil)))) (eCall (f_makes) (eCons (e2 dIx (eVar 3) (eC (.int 1))) eNil)) (eC (.int 1)))) [.val P, .val (.int 1), .val q, .val (PyE.enc r)] n = some (.ok (.nx [.val P, .val (.int 1), .val q, .val (PyE.enc r)]), n) := by
  obtain ⟨b, g, a, rfl, hb, g0, gt, gm⟩ := h
  obtain ⟨l1, l2, l3⟩ := rowB_len hb
  have t := takes_ok g (by omega) n
  have m := makes_ok g (by omega) n
  have x1 : dIx (PyE.enc (rw3 b g a)) (.int 1) = some (encT g) := rfl
  simp_arith [x1, t, m, Int.mul_one]
theorem growth_ok {qs : List Part} (h : ∀ q ∈ qs, Sp q) (n : Int) : f_growth_of [.tup (qs.map pD)] n = some (.ok (.int 1), n) := by
  simp only [f_growth_of, g_growth_of]
  simp_arith []
  refine use_for (fun ρ => ∃ s2 s3, ρ = [.val (.tup (qs.map pD)), .val (.int 1), s2, s3]) ?_ ?_
  · obtain ⟨ρ', e, i⟩ := for_fold (g := gV 2) (b := sFor (gV 3) (iOf (eCall (f_rows_of) (eCons (eVar 2) eNil))) (sAug 1 dMulN (eIf (tB (e2 dGt (eCall (f_makes) (eCons (e2 dIx (eVar 3) (eC (.int 1))) eNil)) (eCall (f_takes) (eCons (e2 dIx (eVar 3) (eC (.int 1))) eNil)))) (eCall (f_makes) (eCons (e2 dIx (eVar 3) (eC (.int 1))) eNil)) (eC (.int 1))))) (h := pD) (n := n) (fun (_ : Unit) ρ => ∃ s2 s3, ρ = [.val (.tup (qs.map pD)), .val (.int 1), s2, s3]) (fun _ _ => ()) (xs := qs) (fun q hq _ ρ ⟨s2, s3, hρ⟩ => by
      subst hρ
      have ro := rows_ok q n
      have it : dItems (encT (prs q)) = some ((prs q).map PyE.enc) := rfl
      obtain ⟨ρ', e, s3', hρ⟩ := for_fold (g := gV 3) (b := (sAug 1 dMulN (eIf (tB (e2 dGt (eCall (f_makes) (eCons (e2 dIx (eVar 3) (eC (.int 1))) eNil)) (eCall (f_takes) (eCons (e2 dIx (eVar 3) (eC (.int 1))) eNil)))) (eCall (f_makes) (eCons (e2 dIx (eVar 3) (eC (.int 1))) eNil)) (eC (.int 1))))) (h := (PyE.enc : Row → D)) (n := n) (fun (_ : Unit) ρ => ∃ s3, ρ = [.val (.tup (qs.map pD)), .val (.int 1), .val (pD q), s3]) (fun _ _ => ()) (xs := prs q) (fun r hr _ ρ ⟨s3, hρ⟩ => by
        subst hρ
        exact ⟨_, _, rfl, gr_row ((h q hq).2.1 r hr) _ _ n, _, rfl⟩) (s := ()) (ρ := [.val (.tup (qs.map pD)), .val (.int 1), .val (pD q), s3]) ⟨_, rfl⟩
      subst hρ
      refine ⟨_, _, rfl, ?_, .val (pD q), s3', rfl⟩
      rw [← e]
      simp_arith [ro, it]) (s := ()) (ρ := [.val (.tup (qs.map pD)), .val (.int 1), .no, .no]) ⟨_, _, rfl⟩
    exact ⟨ρ', e, i⟩
  · rintro ρ' ⟨s2, s3, rfl⟩
    simp_arith []
def pcD (ps : List Part) : D := .obj 4 ["way", "cast", "parts"] [.str "flat", .tup [.int 9, .int 2], .tup (ps.map pD)]
theorem mem_enum {d : D} {xs : List D} (h : d ∈ enumD xs) : ∃ i x, d = .tup [i, x] ∧ x ∈ xs := by
  unfold enumD zipD at h
  obtain ⟨p, hp, rfl⟩ := List.mem_map.mp h
  exact ⟨p.1, p.2, rfl, (List.of_mem_zip (show (p.1, p.2) ∈ _ from hp)).2⟩
theorem line92 (n : Int) : f_is_line [.tup [.int 9, .int 2]] n = some (.ok (.bl true), n) := by kernel_rfl
theorem flat_in : dNi (.str "flat") (.tup [.str "flat", .str "round"]) = some (.bl false) := by kernel_rfl
theorem piece_ok {qs : List Part} (h : ∀ q ∈ qs, Sp q) (ho : (qs.map oddP).sum ≤ 3) (hl : qs.length ≤ 40) (n : Int) : f_Piece___init__ [.str "flat", .tup [.int 9, .int 2], .tup (qs.map pD)] n = some (.ok (pcD qs), n) := by
  obtain ⟨m, m1, ms⟩ := measure_ok h ho n
  have gr := growth_ok h n
  have ln := line92 n
  have it : dIsi "tuple" (.tup (qs.map pD)) = some (.bl true) := rfl
  simp only [f_Piece___init__, g_Piece___init__]
  simp_arith [ln, flat_in, it]
  refine use_for (fun ρ => ∃ s4 s5, ρ = [.own (.obj 4 [] []), .val (.str "flat"), .val (.tup [.int 9, .int 2]), .val (.tup (qs.map pD)), s4, s5]) ?_ ?_
  · obtain ⟨ρ', n', e, hn, i⟩ := forD_inv (gT (gsC (gV 4) (gsC (gV 5) gsN))) (sIf (tNotD (tTru (eCall (f_is_part) (eCons (eVar 5) eNil)))) sNone sNx) (fun ρ n' => n' = n ∧ ∃ s4 s5, ρ = [.own (.obj 4 [] []), .val (.str "flat"), .val (.tup [.int 9, .int 2]), .val (.tup (qs.map pD)), s4, s5]) (enumD (qs.map pD)) (fun d hd ρ n' ⟨hn, s4, s5, hρ⟩ => by
      subst hn; subst hρ
      obtain ⟨i, x, rfl, hx⟩ := mem_enum hd
      obtain ⟨q, hq, rfl⟩ := List.mem_map.mp hx
      have ip := is_part_ok (h q hq).1 n'
      refine ⟨_, _, n', rfl, ?_, rfl, .val i, .val (pD q), rfl⟩
      simp_arith [ip]) _ n ⟨rfl, .no, .no, rfl⟩
    subst hn
    exact ⟨ρ', e, i⟩
  · rintro ρ' ⟨s4, s5, rfl⟩
    simp_arith [ms, gr]
    generalize (D.tup (qs.map pD)) = Z
    kernel_rfl
end K57
end

section
set_option Elab.async false
set_option linter.all false
set_option autoImplicit false
set_option maxRecDepth 100000
set_option maxHeartbeats 400000
local macro_rules
  | `(tactic| simp_arith [$ts,*]) => `(tactic| simp (disch := first | omega | (simp only [List.length_cons, List.length_nil, List.length_map, List.length_range, List.length_append] <;> omega) | assumption) only [DL.bind_ap, DL.pure_ap, DL.opt_some, DL.opt_none, DL.bindR_ok, DL.bindR_none, DL.bindR_err, DL.bindR_assoc, DL.selB_true, DL.selB_false, DL.seqK_nx, DL.seqK_bk, DL.seqK_ct, DL.seqK_ret, DL.runK_ret, DL.runK_nx, DL.runIK_nx, DL.turnK_nx, DL.turnK_ct, DL.turnK_bk, DL.turnK_ret, DL.makeK_obj, DL.intK_int, DL.chainK_true, DL.chainK_false, DL.consO_some, DL.consO_none, DL.eVar_0, DL.eVar_s, DL.eC_ap, DL.eNil_ap, DL.eCons_ap, DL.eTup_ap, DL.eLst_ap, DL.e2_ap, DL.e1_ap, DL.eB_ap, DL.eCall_ap, DL.eMake_ap, DL.eMeth_ap, DL.eIf_ap, DL.eAnd_ap, DL.eOr_ap, DL.eNot_ap, DL.eCut_ap, DL.oNone_ap, DL.oSome_ap, DL.eChain_ap, DL.tB_ap, DL.tTru_ap, DL.tAndD_ap, DL.tOrD_ap, DL.tNotD_ap, DL.tYesD_ap, DL.dBool_bl, DL.dTru_bl, DL.isNon_non, DL.isNon_int, DL.isNon_tup, DL.sNx_ap, DL.sSeq_ap, DL.sRet_ap, DL.sExp_ap, DL.sAsg_ap, DL.sIf_ap, DL.sFor_ap, DL.sWhile_ap, DL.sAug_ap, DL.sUp_ap, DL.sPar_ap, DL.own_0, DL.own_s, DL.gV_ap, DL.gT_ap, DL.gsN_ap, DL.gsC_ap, DL.iOf_ap, DL.iRng1D_ap, DL.iRng2D_ap, DL.dItems_tup, DL.dItems_lst, DL.calmR_ok, DL.calm_ap, DL.eComp_ap, DL.ownLst_0, DL.ownLst_s, DL.sApp_ap, DL.compB_ap, DL.hide_nil, DL.hide_no, DL.hide_val, DL.hide_own, DL.hide_j, DL.wipeD_nil, DL.wipeD_cons, DL.runD_ap, DL.runI_ap, DL.forD_nil, DL.eOwn2_ap, DL.e2M_ap, DL.e1M_ap, DL.mOwn_ap, DL.mOwn1_ap, DL.optK_bl, DL.mOwnIn_ap, DL.tOwn_ap, DL.eNotT_ap, DL.eBoolO_ap, DL.iZipD_ap, DL.sOwnN_ap, DL.cutK_lst, DL.nCut_ap, DL.nLst_ap, DL.sFrz_ap, DL.eIxT_ap, DL.sPutT_ap, DL.sOwn2_ap, DL.sOwn_ap, DL.nComp_ap, DL.nAdd_ap, DL.eIdx_ap, DL.isLst_lst, DL.eOwnIx_ap, DL.sPutL_ap, DL.sExtM_ap, DL.sExt_ap, DL.sBk_ap, DL.eChain3_ap, DL.nLstOf_ap, DL.itemsLT_lst, DL.itemsLT_tup, DL.iEnumD_ap, DL.dEnum_lst, DL.dEnum_tup, DL.sPutL2_ap, DL.putE_ap, DL.two_tup, DL.dAdd_int, DL.dSub_int, DL.dNeg_int, DL.dLen_tup, DL.dLen_lst, DL.lt_t, DL.lt_f, DL.gt_t, DL.gt_f, DL.ge_t, DL.ge_f, DL.le_t, DL.le_f, DL.eq_t, DL.eq_f, DL.ne_t, DL.ne_f, DL.mulR, DL.mulL, DL.mulNR, DL.mulNL, DL.dMod_int, DL.dDiv_int, DL.tru_bl, DL.iL_len, DL.iL_items, DL.fst2, DL.snd2, DL.fst3, DL.snd3, DL.trd3, DL.all_nil, DL.mkTup_of, DL.mkLst_of, List.map_cons, List.map_nil, List.cons_append, List.nil_append, List.set_cons_zero, List.set_cons_succ, List.length_cons, List.length_nil, List.length_map, List.length_range, List.replicate_succ, List.replicate_zero, List.foldl_cons, List.foldl_nil, List.zip_cons_cons, List.zip_nil_right, Option.bind_some, Option.bind_none, Bool.not_true, Bool.not_false, Bool.and_true, Bool.true_and, Bool.and_false, Bool.false_and, Bool.or_true, Bool.true_or, Bool.or_false, Bool.false_or, if_true, if_false, $ts,*])
namespace K57
open DL PySem L2 P_k57_whole_spread PyProof.Rows
/-! ### the law's takes, makes -/
theorem ltk_ok (k : Kd) : (dIxA KT (.str k.s)).bind (fun x => dIx x (.int 0)) = some (.int k.t) := by cases k <;> kernel_rfl
theorem lmk_ok (k : Kd) : (dIxA KT (.str k.s)).bind (fun x => dIx x (.int 1)) = some (.int k.m) := by cases k <;> kernel_rfl
theorem ltakes_ok (w : Word) (hl : w.length ≤ 1000) (n : Int) : f__law_takes [encT w, KT] n = some (.ok (.int (K57.T w)), n) := by
  have c := comp_all (PyE.enc : Cell → D) (compB [2, 3] (gT (gsC (gV 2) (gsC (gV 3) gsN))) tYesD (e2 dIx (e2 dIxA (eVar 1) (eVar 2)) (eC (.int 0))) [.val (encT w), .val KT, .no, .no]) (fun c => .int (c.k.t : Nat)) n w fun x _ => by
    have h := ltk_ok x.k
    have e : (PyE.enc x : D) = .tup [.str x.k.s, .str x.y.s] := rfl
    rw [e]
    generalize KT = KK at *
    cases hk : dIxA KK (.str x.k.s) with
    | none => rw [hk] at h; cases h
    | some d =>
      rw [hk, Option.bind_some] at h
      simp [hk, h]
  have a := sum_nat (w.map fun c => c.k.t)
  rw [List.map_map] at a
  have z := z_small w (fun c : Cell => D.int (c.k.t : Nat)) (by omega)
  have it : dItems (encT w) = some (w.map PyE.enc) := rfl
  have a : dSum [.lst (w.map fun c : Cell => D.int (c.k.t : Nat))] = some (.int (K57.T w)) := a
  generalize (w.map fun c : Cell => D.int (c.k.t : Nat)) = B at *
  generalize (w.map (PyE.enc : Cell → D)) = A at *
  generalize encT w = Z at *
  generalize KT = KK at *
  simp only [f__law_takes, g__law_takes]
  simp [it, c, mkLst_of z, a]
theorem lmakes_ok (w : Word) (hl : w.length ≤ 1000) (n : Int) : f__law_makes [encT w, KT] n = some (.ok (.int (K57.M w)), n) := by
  have c := comp_all (PyE.enc : Cell → D) (compB [2, 3] (gT (gsC (gV 2) (gsC (gV 3) gsN))) tYesD (e2 dIx (e2 dIxA (eVar 1) (eVar 2)) (eC (.int 1))) [.val (encT w), .val KT, .no, .no]) (fun c => .int (c.k.m : Nat)) n w fun x _ => by
    have h := lmk_ok x.k
    have e : (PyE.enc x : D) = .tup [.str x.k.s, .str x.y.s] := rfl
    rw [e]
    generalize KT = KK at *
    cases hk : dIxA KK (.str x.k.s) with
    | none => rw [hk] at h; cases h
    | some d =>
      rw [hk, Option.bind_some] at h
      simp [hk, h]
  have a := sum_nat (w.map fun c => c.k.m)
  rw [List.map_map] at a
  have z := z_small w (fun c : Cell => D.int (c.k.m : Nat)) (by omega)
  have it : dItems (encT w) = some (w.map PyE.enc) := rfl
  have a : dSum [.lst (w.map fun c : Cell => D.int (c.k.m : Nat))] = some (.int (K57.M w)) := a
  generalize (w.map fun c : Cell => D.int (c.k.m : Nat)) = B at *
  generalize (w.map (PyE.enc : Cell → D)) = A at *
  generalize encT w = Z at *
  generalize KT = KK at *
  simp only [f__law_makes, g__law_makes]
  simp [it, c, mkLst_of z, a]
/-! ### easy rows -/
def LLs : List (List Kd) := [[.k], [.p], [.sl], [.k], [.k], [.k, .p], [.yo, .k2tog]]
def kD (ks : List Kd) : D := .tup (ks.map fun k => .str k.s)
def Ez (b g a : Word) : Prop := b.length ≤ 2 ∧ a.length ≤ 2 ∧ g.length ≤ 2 ∧ g ≠ [] ∧ (K57.T g = 1 ∨ K57.T g = 2) ∧ K57.M g = K57.T g
theorem LLs_ok : ∀ ks ∈ LLs, ks ≠ [] ∧ ks.length ≤ 2 ∧ ((ks.map Kd.t).sum = 1 ∨ (ks.map Kd.t).sum = 2) ∧ (ks.map Kd.m).sum = (ks.map Kd.t).sum := by decide
theorem easy_row_ok (W : Wd) (ys : List D) (hy : Ys ys) (n : Int) : ∃ b g a n', Ez b g a ∧ f__law_easy_row W [.drw, .lst ys] n = some (.ok (PyE.enc (rw3 b g a)), n') := by
  obtain ⟨d, hd, pk⟩ := pick_ok W (LLs.map kD) (by simp [LLs]) n
  obtain ⟨ks, hks, rfl⟩ := List.mem_map.mp hd
  obtain ⟨k0, k1, k2, k3⟩ := LLs_ok ks hks
  obtain ⟨g, n1, cg, gk, _⟩ := comp_prj (b := compB [4] (gV 4) tYesD (eTup (eCons (eVar 4) (eCons (eCall (f__law_pick W) (eCons (eVar 0) (eCons (eVar 1) eNil))) eNil))) [.val .drw, .val (.lst ys), .val (.lst (LLs.map kD)), .no, .no]) (fun k : Kd => D.str k.s) (PyE.enc : Cell → D) Cell.k (fun _ => True) (w := ks) (n := n + 1) fun k _ n => by
    obtain ⟨y, hy', py⟩ := pick_ok W ys hy.1 n
    obtain ⟨y, rfl⟩ := hy.2 y hy'
    refine ⟨⟨k, y⟩, n + 1, rfl, trivial, ?_⟩
    simp_arith [py]
    rfl
  obtain ⟨b, n2, lb, wb⟩ := lword_ok W 2 (by omega) ys hy n1
  obtain ⟨a, n3, la, wa⟩ := lword_ok W 2 (by omega) ys hy n2
  have wb' : f__law_word W [.drw, .int 2, .lst ys] n1 = some (.ok (encT b), n2) := wb
  have wa' : f__law_word W [.drw, .int 2, .lst ys] n2 = some (.ok (encT a), n3) := wa
  have gl : g.length = ks.length := by rw [← gk, List.length_map]
  have tg : K57.T g = (ks.map Kd.t).sum := by rw [← gk, List.map_map]; rfl
  have mg : K57.M g = (ks.map Kd.m).sum := by rw [← gk, List.map_map]; rfl
  refine ⟨b, g, a, n3, ⟨lb, la, by omega, fun e => k0 (by rw [← gk, e]; rfl), by omega, by omega⟩, ?_⟩
  rw [enc_rw3]
  have e0 : [.tup [.str "k"], .tup [.str "p"], .tup [.str "sl"], .tup [.str "k"], .tup [.str "k"], .tup [.str "k", .str "p"], .tup [.str "yo", .str "k2tog"]] = LLs.map kD := rfl
  have it : dItems (kD ks) = some (ks.map fun k => D.str k.s) := rfl
  have ml := mkLst_of (ds := g.map (PyE.enc : Cell → D)) (by rw [List.length_map]; omega)
  have tp : dTupOf [.lst (g.map (PyE.enc : Cell → D))] = some (encT g) := rfl
  simp only [f__law_easy_row, g__law_easy_row]
  have ml0 : mkLst (LLs.map kD) = some (.lst (LLs.map kD)) := mkLst_of (by decide)
  simp_arith [e0, ml0, pk, it, cg, ml, tp, wb', wa']
theorem Ez.sm {b g a : Word} (h : Ez b g a) : Sm (rw3 b g a) ∧ evR (rw3 b g a) = true := by
  obtain ⟨h1, h2, h3, h4, h5, h6⟩ := h
  refine ⟨⟨b, g, a, rfl, ?_, h4, h5, by omega⟩, ?_⟩
  · unfold rowB
    rw [if_neg h4, decide_eq_true (by omega), decide_eq_true (by omega), decide_eq_true (by omega), decide_eq_true (by omega)]
    rfl
  · show decide _ = true
    rw [decide_eq_true h6.symm]
/-! ### the parts of a shaped piece -/
def ppl (r : Row) (k : Nat) : List Part := if 2 ≤ k ∧ evR r = true then [.blk k [r]] else pw [.row r] k
theorem plain_parts_ok {r : Row} (h : Ow r) (k : Nat) (hk : k ≤ 99) (i : Int) (hi : i = k) (n : Int) : f_plain_parts [PyE.enc r, .int i] n = some (.ok (.lst ((ppl r k).map pD)), n) := by
  subst hi
  have ev := even_ok h n
  have mk : dMulL (.lst [.tup [.str "row", PyE.enc r]]) (.int (k : Int)) = some (.lst ((pw [Part.row r] k).map pD)) := by
    rw [dMulL_ok (by omega) (by simp), ← pw_map]
    rfl
  unfold ppl
  simp only [f_plain_parts, g_plain_parts]
  by_cases c : 2 ≤ k
  · cases q : evR r with
    | true =>
      rw [q] at ev
      rw [if_pos ⟨c, rfl⟩]
      simp_arith [ev]
      rfl
    | false =>
      rw [q] at ev
      rw [if_neg (fun z => by cases z.2)]
      simp_arith [ev, mk]
  · rw [if_neg (fun z => c z.1)]
    simp_arith [mk]
def p1 (p c : Row) (g : Nat) : List Part := if 0 < g then ppl p (g - 1) ++ [.row c] else []
def prt (p c : Row) (gs : List Nat) : List Part := gs.flatMap (p1 p c)
theorem pw_one {α : Type} (x : α) (k : Nat) : pw [x] k = List.replicate k x := by
  induction k with
  | zero => rfl
  | succ k ih => rw [pw_succ, ih]; rfl
theorem p1_len (p c : Row) (g : Nat) : (p1 p c g).length ≤ g := by
  unfold p1 ppl
  split
  · split
    · simp; omega
    · rw [pw_one]; simp; omega
  · simp
theorem prt_len (p c : Row) : ∀ gs : List Nat, (prt p c gs).length ≤ gs.sum
  | [] => by simp [prt]
  | g :: gs => by
    have := p1_len p c g
    have := prt_len p c gs
    unfold prt at *
    rw [List.flatMap_cons, List.length_append, List.sum_cons]
    omega
theorem p1_sp {p c : Row} (hp : Sm p) (hc : Sm c) (hg : -12 ≤ chg p ∧ chg p ≤ 12) {g : Nat} (hl : g ≤ 99) : ∀ q ∈ p1 p c g, Sp q := by
  have row : ∀ r, Sm r → Sp (.row r) := fun r h => ⟨h.ow, fun x hx => by rw [List.mem_singleton.mp hx]; exact h, fun t rs e => by cases e⟩
  intro q hq
  unfold p1 ppl at hq
  split at hq
  · rcases List.mem_append.mp hq with hq | hq
    · split at hq
      · rename_i z
        rw [List.mem_singleton.mp hq]
        refine ⟨⟨z.1, by omega, by simp, by simp, fun x hx => by rw [List.mem_singleton.mp hx]; exact hp.ow, by simp [z.2], by simp; omega, by simp; omega⟩, fun x hx => ?_, fun t rs e => ?_⟩
        · rw [List.mem_singleton.mp hx]; exact hp
        · injection e with _ e; rw [← e]; rfl
      · rw [pw_one] at hq
        rw [List.eq_of_mem_replicate hq]
        exact row p hp
    · rw [List.mem_singleton.mp hq]
      exact row c hc
  · cases hq
theorem prt_sp {p c : Row} (hp : Sm p) (hc : Sm c) (hg : -12 ≤ chg p ∧ chg p ≤ 12) {gs : List Nat} (hl : ∀ g ∈ gs, g ≤ 99) : ∀ q ∈ prt p c gs, Sp q := by
  intro q hq
  unfold prt at hq
  obtain ⟨g, h1, h2⟩ := List.mem_flatMap.mp hq
  exact p1_sp hp hc hg (hl g h1) q h2
theorem odd_even {p c : Row} (hp : evR p = true) (hc : evR c = true) (gs : List Nat) : ((prt p c gs).map oddP).sum = 0 := by
  have : ∀ q ∈ prt p c gs, oddP q = 0 := by
    intro q hq
    unfold prt at hq
    obtain ⟨g, h1, h2⟩ := List.mem_flatMap.mp hq
    unfold p1 ppl at h2
    have row : ∀ r, evR r = true → oddP (.row r) = 0 := fun r h => by simp [oddP, prs, odd, h]
    split at h2
    · rcases List.mem_append.mp h2 with h2 | h2
      · split at h2
        · rw [List.mem_singleton.mp h2]; simp [oddP, prs, odd, hp]
        · rw [pw_one] at h2
          rw [List.eq_of_mem_replicate h2]; exact row p hp
      · rw [List.mem_singleton.mp h2]; exact row c hc
    · cases h2
  generalize prt p c gs = qs at *
  induction qs with
  | nil => rfl
  | cons q qs ih =>
    rw [List.map_cons, List.sum_cons, this q List.mem_cons_self, ih fun x hx => this x (List.mem_cons_of_mem _ hx)]
theorem odd_one {p c : Row} (hc : evR c = true) {g : Nat} (hg : g ≤ 3) : ((prt p c [g]).map oddP).sum ≤ 2 := by
  cases q : evR p with
  | true => rw [odd_even q hc]; omega
  | false =>
    have e : ∀ r, oddP (.row r) = odd r := fun r => by simp [oddP, prs]
    have o1 : odd c = 0 := by simp [odd, hc]
    have o2 : odd p = 1 := by simp [odd, q]
    match g, hg with
    | 0, _ => simp [prt, p1]
    | 1, _ => simp [prt, p1, ppl, q, pw_one, e, o1]
    | 2, _ => simp [prt, p1, ppl, q, pw_one, e, o1, o2]
    | 3, _ => simp [prt, p1, ppl, q, pw_one, e, o1, o2]
theorem dAdd_lst {xs ys : List D} (h : xs.length + ys.length ≤ 16777216) : dAdd (.lst xs) (.lst ys) = some (.lst (xs ++ ys)) := mkLst_of (by rw [List.length_append]; exact h)
theorem shaped_ok {p c : Row} (hp : Sm p) (hc : Sm c) (hg : -12 ≤ chg p ∧ chg p ≤ 12) {gs : List Nat} (g1 : 1 ≤ gs.length) (g2 : gs.length ≤ 60) (g3 : ∀ g ∈ gs, g ≤ 20) (g4 : gs.sum ≤ 40) (ho : ((prt p c gs).map oddP).sum ≤ 3) (n : Int) :
    f_shaped [.str "flat", .tup [.int 9, .int 2], PyE.enc p, PyE.enc c, gD gs] n = some (.ok (pcD (prt p c gs)), n) := by
  have ck := gaps_ok gs g1 g2 (fun k hk => by have := g3 k hk; omega) n
  have i1 := isrow_ok hp.ow n
  have i2 := isrow_ok hc.ow n
  have it : dItems (gD gs) = some (gs.map fun k : Nat => D.int k) := rfl
  have pl := prt_len p c gs
  have pi := piece_ok (prt_sp hp hc hg (gs := gs) fun g h => by have := g3 g h; omega) ho (by omega) n
  have mk : makeK 4 (pcD (prt p c gs)) = M.pure (pcD (prt p c gs)) := makeK_obj _ _ _
  have tp : dTupOf [.lst ((prt p c gs).map pD)] = some (.tup ((prt p c gs).map pD)) := rfl
  simp only [f_shaped, g_shaped]
  simp_arith [ck, forD_cons, i1, i2, it]
  refine use_for (fun ρ => ∃ s7, ρ = [.val (.str "flat"), .val (.tup [.int 9, .int 2]), .val (PyE.enc p), .val (PyE.enc c), .val (gD gs), .val (PyE.enc c), .own (.lst ((prt p c gs).map pD)), s7]) ?_ ?_
  · refine for_pre (h := fun k : Nat => D.int k) (fun ys ρ => ∃ s7, ρ = [.val (.str "flat"), .val (.tup [.int 9, .int 2]), .val (PyE.enc p), .val (PyE.enc c), .val (gD gs), .val (PyE.enc c), .own (.lst ((prt p c ys).map pD)), s7]) (ys := []) ?_ (List.nil_append gs) ⟨_, rfl⟩
    rintro ys g zs e ρ ⟨s7, rfl⟩
    have hm : g ∈ gs := by rw [← e]; simp
    have ly : (prt p c ys).length ≤ 40 := by
      have := prt_len p c ys
      have : ys.sum ≤ gs.sum := by rw [← e, List.sum_append]; omega
      omega
    have e2 : prt p c (ys ++ [g]) = prt p c ys ++ p1 p c g := by unfold prt; rw [List.flatMap_append]; simp
    refine ⟨_, _, rfl, ?_, .val (.int g), rfl⟩
    rw [e2]
    by_cases z : 0 < g
    · have pp := plain_parts_ok hp.ow (g - 1) (by have := g3 g hm; omega) ((g : Int) - 1) (by omega) n
      have e1 : p1 p c g = ppl p (g - 1) ++ [.row c] := if_pos z
      have l1 := p1_len p c g
      have l2 := g3 g hm
      have l3 : (ppl p (g - 1)).length ≤ 20 := by rw [e1, List.length_append] at l1; omega
      have ad : dAdd (.lst ((ppl p (g - 1)).map pD)) (.lst [.tup [.str "row", PyE.enc c]]) = some (.lst ((p1 p c g).map pD)) := by
        rw [dAdd_lst (by rw [List.length_map]; simp; omega), e1, List.map_append]
        rfl
      have ex := uExt_ok (xs := (prt p c ys).map pD) (ys := (p1 p c g).map pD) (by rw [List.length_map, List.length_map]; omega)
      rw [← List.map_append] at ex
      simp_arith [pp, ad, ex]
    · have e1 : p1 p c g = [] := if_neg z
      rw [e1, List.append_nil]
      simp_arith []
  · rintro ρ' ⟨s7, rfl⟩
    have fz : frzE 6 [.val (.str "flat"), .val (.tup [.int 9, .int 2]), .val (PyE.enc p), .val (PyE.enc c), .val (gD gs), .val (PyE.enc c), .own (.lst ((prt p c gs).map pD)), s7] = some [.val (.str "flat"), .val (.tup [.int 9, .int 2]), .val (PyE.enc p), .val (PyE.enc c), .val (gD gs), .val (PyE.enc c), .val (.lst ((prt p c gs).map pD)), s7] := rfl
    simp_arith [fz, tp, pi, mk]
end K57
end

section
set_option Elab.async false
set_option linter.all false
set_option autoImplicit false
set_option maxRecDepth 100000
set_option maxHeartbeats 400000
local macro_rules
  | `(tactic| simp_arith [$ts,*]) => `(tactic| simp (disch := first | omega | (simp only [List.length_cons, List.length_nil, List.length_map, List.length_range, List.length_append] <;> omega) | assumption) only [DL.bind_ap, DL.pure_ap, DL.opt_some, DL.opt_none, DL.bindR_ok, DL.bindR_none, DL.bindR_err, DL.bindR_assoc, DL.selB_true, DL.selB_false, DL.seqK_nx, DL.seqK_bk, DL.seqK_ct, DL.seqK_ret, DL.runK_ret, DL.runK_nx, DL.runIK_nx, DL.turnK_nx, DL.turnK_ct, DL.turnK_bk, DL.turnK_ret, DL.makeK_obj, DL.intK_int, DL.chainK_true, DL.chainK_false, DL.consO_some, DL.consO_none, DL.eVar_0, DL.eVar_s, DL.eC_ap, DL.eNil_ap, DL.eCons_ap, DL.eTup_ap, DL.eLst_ap, DL.e2_ap, DL.e1_ap, DL.eB_ap, DL.eCall_ap, DL.eMake_ap, DL.eMeth_ap, DL.eIf_ap, DL.eAnd_ap, DL.eOr_ap, DL.eNot_ap, DL.eCut_ap, DL.oNone_ap, DL.oSome_ap, DL.eChain_ap, DL.tB_ap, DL.tTru_ap, DL.tAndD_ap, DL.tOrD_ap, DL.tNotD_ap, DL.tYesD_ap, DL.dBool_bl, DL.dTru_bl, DL.isNon_non, DL.isNon_int, DL.isNon_tup, DL.sNx_ap, DL.sSeq_ap, DL.sRet_ap, DL.sExp_ap, DL.sAsg_ap, DL.sIf_ap, DL.sFor_ap, DL.sWhile_ap, DL.sAug_ap, DL.sUp_ap, DL.sPar_ap, DL.own_0, DL.own_s, DL.gV_ap, DL.gT_ap, DL.gsN_ap, DL.gsC_ap, DL.iOf_ap, DL.iRng1D_ap, DL.iRng2D_ap, DL.dItems_tup, DL.dItems_lst, DL.calmR_ok, DL.calm_ap, DL.eComp_ap, DL.ownLst_0, DL.ownLst_s, DL.sApp_ap, DL.compB_ap, DL.hide_nil, DL.hide_no, DL.hide_val, DL.hide_own, DL.hide_j, DL.wipeD_nil, DL.wipeD_cons, DL.runD_ap, DL.runI_ap, DL.forD_nil, DL.eOwn2_ap, DL.e2M_ap, DL.e1M_ap, DL.mOwn_ap, DL.mOwn1_ap, DL.optK_bl, DL.mOwnIn_ap, DL.tOwn_ap, DL.eNotT_ap, DL.eBoolO_ap, DL.iZipD_ap, DL.sOwnN_ap, DL.cutK_lst, DL.nCut_ap, DL.nLst_ap, DL.sFrz_ap, DL.eIxT_ap, DL.sPutT_ap, DL.sOwn2_ap, DL.sOwn_ap, DL.nComp_ap, DL.nAdd_ap, DL.eIdx_ap, DL.isLst_lst, DL.eOwnIx_ap, DL.sPutL_ap, DL.sExtM_ap, DL.sExt_ap, DL.sBk_ap, DL.eChain3_ap, DL.nLstOf_ap, DL.itemsLT_lst, DL.itemsLT_tup, DL.iEnumD_ap, DL.dEnum_lst, DL.dEnum_tup, DL.sPutL2_ap, DL.putE_ap, DL.two_tup, DL.dAdd_int, DL.dSub_int, DL.dNeg_int, DL.dLen_tup, DL.dLen_lst, DL.lt_t, DL.lt_f, DL.gt_t, DL.gt_f, DL.ge_t, DL.ge_f, DL.le_t, DL.le_f, DL.eq_t, DL.eq_f, DL.ne_t, DL.ne_f, DL.mulR, DL.mulL, DL.mulNR, DL.mulNL, DL.dMod_int, DL.dDiv_int, DL.tru_bl, DL.iL_len, DL.iL_items, DL.fst2, DL.snd2, DL.fst3, DL.snd3, DL.trd3, DL.all_nil, DL.mkTup_of, DL.mkLst_of, List.map_cons, List.map_nil, List.cons_append, List.nil_append, List.set_cons_zero, List.set_cons_succ, List.length_cons, List.length_nil, List.length_map, List.length_range, List.replicate_succ, List.replicate_zero, List.foldl_cons, List.foldl_nil, List.zip_cons_cons, List.zip_nil_right, Option.bind_some, Option.bind_none, Bool.not_true, Bool.not_false, Bool.and_true, Bool.true_and, Bool.and_false, Bool.false_and, Bool.or_true, Bool.true_or, Bool.or_false, Bool.false_or, if_true, if_false, $ts,*])
namespace K57
open DL PySem L2 P_k57_whole_spread PyProof.Rows
def SH0 (W : Wd) : SX := (sAsg (gT (gsC (gV 2) (gsC (gV 3) gsN))) (eTup (eCons (eCall (f__law_easy_row W) (eCons (eVar 0) (eCons (eLst (eCons (eC (.str "a")) eNil)) eNil))) (eCons (eCall (f__law_easy_row W) (eCons (eVar 0) (eCons (eLst (eCons (eC (.str "b")) eNil)) eNil))) eNil))))
def SH1 (W : Wd) : SX := (sIf (tB (e2 dEq (eCall (f__law_take W) (eCons (eVar 0) (eCons (eC (.int 4)) eNil))) (eC (.int 0)))) (sAsg (gV 2) (eTup (eCons (e2 dIx (eVar 2) (eC (.int 0))) (eCons (eTup (eCons (eTup (eCons (eC (.str "k2tog")) (eCons (eC (.str "a")) eNil))) eNil)) (eCons (e2 dIx (eVar 2) (eC (.int 2))) eNil))))) sNx)
def SH2 (W : Wd) : SX := (sAsg (gV 4) (eIf (tB (e2 dNe (e2 dIx (eVar 2) (eC (.int 1))) (eTup (eCons (eTup (eCons (eC (.str "k2tog")) (eCons (eC (.str "a")) eNil))) eNil)))) (eComp [10] (gV 10) (iRng1D (eCons (e2 dAdd (eC (.int 1)) (eCall (f__law_take W) (eCons (eVar 0) (eCons (eC (.int 4)) eNil)))) eNil)) tYesD (eCall (f__law_take W) (eCons (eVar 0) (eCons (eC (.int 5)) eNil)))) (eLst (eCons (eCall (f__law_take W) (eCons (eVar 0) (eCons (eC (.int 4)) eNil))) eNil))))
def SH3 (W : Wd) : SX := (sAsg (gV 5) (eCall (f_shaped) (eCons (eC (.str "flat")) (eCons (eTup (eCons (eC (.int 9)) (eCons (eC (.int 2)) eNil))) (eCons (eVar 2) (eCons (eVar 3) (eCons (eVar 4) eNil)))))))
def SH4 (W : Wd) : SX := (sAsg (gV 6) (eLst eNil))
def SH5b0 (W : Wd) : SX := (sAsg (gV 6) (e2 dAdd (eVar 6) (eIf (tB (e2 dGt (eVar 7) (eC (.int 0)))) (e2 dAdd (e2 dMulL (eLst (eCons (eVar 2) eNil)) (e2 dSub (eVar 7) (eC (.int 1)))) (eLst (eCons (eVar 3) eNil))) (eLst eNil))))
def SH5b (W : Wd) : SX := (SH5b0 W)
def SH5 (W : Wd) : SX := (sFor (gV 7) (iOf (eVar 4)) (SH5b W))
def SH6 (W : Wd) : SX := (sAsg (gV 8) (e2 dEq (eCall (f__law_takes) (eCons (e2 dIx (eVar 2) (eC (.int 1))) (eCons (eVar 1) eNil))) (eCall (f__law_makes) (eCons (e2 dIx (eVar 2) (eC (.int 1))) (eCons (eVar 1) eNil)))))
def SH7 (W : Wd) : SX := (sAsg (gV 9) (eComp [11] (gV 11) (iOf (e1 (dFld 4 "parts") (eVar 5))) (tB (e2 dEq (e2 dIx (eVar 11) (eC (.int 0))) (eC (.str "block")))) (eVar 11)))
def SH8 (W : Wd) : SX := (sIf (tOrD (tB (e2 dNe (eB dLen (eCons (eVar 9) eNil)) (eB dLen (eCons (eComp [7] (gV 7) (iOf (eVar 4)) (tAndD (tB (e2 dGe (eVar 7) (eC (.int 3)))) (tTru (eVar 8))) (eVar 7)) eNil)))) (tB (e2 dNe (eTup (eCons (e1 (dFld 4 "way") (eVar 5)) (eCons (e1 (dFld 4 "cast") (eVar 5)) eNil))) (eTup (eCons (eC (.str "flat")) (eCons (eTup (eCons (eC (.int 9)) (eCons (eC (.int 2)) eNil))) eNil)))))) (sRet (eC (.bl false))) sNx)
def SH9 (W : Wd) : SX := (sRet (eAnd (e2 dEq (eCall (f__law_all_rows) (eCons (e1 (dFld 4 "parts") (eVar 5)) (eCons (eC (.int 5)) eNil))) (eVar 6)) (eB dAll (eCons (eComp [11] (gV 11) (iOf (eVar 9)) tYesD (eAnd (e2 dEq (e2 dIx (eVar 11) (eC (.int 2))) (eTup (eCons (eVar 2) eNil))) (e2 dGe (e2 dIx (e2 dIx (eVar 11) (eC (.int 1))) (eC (.int 0))) (eC (.int 2))))) eNil))))
def SH (W : Wd) : SX := (sSeq (SH0 W) (sSeq (SH1 W) (sSeq (SH2 W) (sSeq (SH3 W) (sSeq (SH4 W) (sSeq (SH5 W) (sSeq (SH6 W) (sSeq (SH7 W) (sSeq (SH8 W) (SH9 W))))))))))
theorem SH_eq (W : Wd) : g__law_shaped W = SH W := rfl

/-- the law's environment there -/
def HE (s2 s3 s4 s5 s6 s7 s8 s9 : Sl) : DL.Env := [.val .drw, .val KT, s2, s3, s4, s5, s6, s7, s8, s9, .no, .no]
def d1 (p c : Row) (g : Nat) : List Row := if 0 < g then pw [p] (g - 1) ++ [c] else []
def due (p c : Row) (gs : List Nat) : List Row := gs.flatMap (d1 p c)
theorem due_parts (p c : Row) (gs : List Nat) : (prt p c gs).flatMap pun = due p c gs := by
  have row : ∀ (r : Row) k, (pw [Part.row r] k).flatMap pun = pw [r] k := fun r k => by
    induction k with
    | zero => rfl
    | succ k ih => rw [pw_succ, pw_succ, List.flatMap_append, ih]; rfl
  have one : ∀ g, (p1 p c g).flatMap pun = d1 p c g := fun g => by
    unfold p1 d1 ppl
    split
    · rw [List.flatMap_append]
      congr 1
      split
      · simp [pun]
      · exact row _ _
    · rfl
  unfold prt due
  rw [List.flatMap_assoc]
  congr 1
  funext g
  exact one g
def isB : Part → Bool
  | .row _ => false
  | .blk _ _ => true
theorem blocks_many (p c : Row) (gs : List Nat) : ((prt p c gs).filter isB).length = (gs.filter fun g => decide (3 ≤ g) && evR p).length := by
  have row : ∀ (r : Row) k, (pw [Part.row r] k).filter isB = [] := fun r k => by
    rw [pw_one, List.filter_eq_nil_iff]
    intro q hq
    rw [List.eq_of_mem_replicate hq]
    simp [isB]
  induction gs with
  | nil => rfl
  | cons g gs ih =>
    have e : prt p c (g :: gs) = p1 p c g ++ prt p c gs := rfl
    rw [e, List.filter_append, List.length_append, ih, List.filter_cons]
    have : ((p1 p c g).filter isB).length = if (decide (3 ≤ g) && evR p) = true then 1 else 0 := by
      unfold p1 ppl
      by_cases z : 0 < g
      · rw [if_pos z, List.filter_append]
        by_cases y : 2 ≤ g - 1 ∧ evR p = true
        · rw [if_pos y, y.2, decide_eq_true (by omega)]
          simp [isB]
          rfl
        · rw [if_neg y, row]
          have : (decide (3 ≤ g) && evR p) = false := by
            rw [Bool.eq_false_iff]
            intro w
            rw [Bool.and_eq_true, decide_eq_true_eq] at w
            exact y ⟨by omega, w.2⟩
          rw [this]
          simp [isB]
      · rw [if_neg z]
        have : (decide (3 ≤ g) && evR p) = false := by rw [decide_eq_false (by omega)]; rfl
        rw [this]
        rfl
    rw [this]
    split <;> simp <;> omega
theorem blk_form {p c : Row} {gs : List Nat} {q : Part} (h : q ∈ (prt p c gs).filter isB) : ∃ k : Nat, 2 ≤ k ∧ q = .blk k [p] := by
  obtain ⟨h1, h2⟩ := List.mem_filter.mp h
  unfold prt at h1
  obtain ⟨g, _, h1⟩ := List.mem_flatMap.mp h1
  unfold p1 ppl at h1
  split at h1
  · rcases List.mem_append.mp h1 with h1 | h1
    · split at h1
      · rename_i z
        exact ⟨_, z.1, List.mem_singleton.mp h1⟩
      · rw [pw_one] at h1
        rw [List.eq_of_mem_replicate h1] at h2
        cases h2
    · rw [List.mem_singleton.mp h1] at h2
      cases h2
  · cases h1
theorem d1_len (p c : Row) (g : Nat) : (d1 p c g).length ≤ g := by
  unfold d1
  split
  · rw [pw_one]; simp; omega
  · simp
theorem due_len (p c : Row) : ∀ gs : List Nat, (due p c gs).length ≤ gs.sum
  | [] => by simp [due]
  | g :: gs => by
    have := d1_len p c g
    have := due_len p c gs
    unfold due at *
    rw [List.flatMap_cons, List.length_append, List.sum_cons]
    omega
theorem pc_way (ps : List Part) : dFld 4 "way" (pcD ps) = some (.str "flat") := by
  unfold pcD
  generalize D.tup (ps.map pD) = Z
  kernel_rfl
theorem pc_cast (ps : List Part) : dFld 4 "cast" (pcD ps) = some (.tup [.int 9, .int 2]) := by
  unfold pcD
  generalize D.tup (ps.map pD) = Z
  kernel_rfl
theorem pc_parts (ps : List Part) : dFld 4 "parts" (pcD ps) = some (.tup (ps.map pD)) := by
  unfold pcD
  generalize D.tup (ps.map pD) = Z
  kernel_rfl
theorem wc_ne : dNe (.tup [.str "flat", .tup [.int 9, .int 2]]) (.tup [.str "flat", .tup [.int 9, .int 2]]) = some (.bl false) := by kernel_rfl
theorem row_eq (r s : Row) : dEq (.tup [PyE.enc r]) (.tup [PyE.enc s]) = some (.bl (decide ([r] = [s]))) := dEq_T [r] [s]
theorem sh_tail (W : Wd) {p c : Row} (hp : Sm p) (hc : Sm c) (hg : -12 ≤ chg p ∧ chg p ≤ 12) {gs : List Nat} (g1 : 1 ≤ gs.length) (g2 : gs.length ≤ 60) (g3 : ∀ g ∈ gs, g ≤ 20) (g4 : gs.sum ≤ 40) (ho : ((prt p c gs).map oddP).sum ≤ 3) (n : Int) :
    sSeq (SH3 W) (sSeq (SH4 W) (sSeq (SH5 W) (sSeq (SH6 W) (sSeq (SH7 W) (sSeq (SH8 W) (SH9 W)))))) (HE (.val (PyE.enc p)) (.val (PyE.enc c)) (.val (gD gs)) .no .no .no .no .no) n = some (.ok (.ret (.bl true)), n) := by
  have sp := shaped_ok hp hc hg g1 g2 g3 g4 ho n
  have hsp := prt_sp hp hc hg (gs := gs) fun g h => by have := g3 g h; omega
  have pl := prt_len p c gs
  have ar := allrows_ok (prt p c gs) (fun q hq => (hsp q hq).1) (by omega) n
  rw [due_parts] at ar
  have ev := even_ok hp.ow n
  refine sq (ρ1 := HE (.val (PyE.enc p)) (.val (PyE.enc c)) (.val (gD gs)) (.val (pcD (prt p c gs))) .no .no .no .no) (n1 := n) (by
    unfold SH3 HE
    simp_arith [sp]) ?_
  refine sq (ρ1 := HE (.val (PyE.enc p)) (.val (PyE.enc c)) (.val (gD gs)) (.val (pcD (prt p c gs))) (.val (encL (due p c []))) .no .no .no) (n1 := n) (by
    unfold SH4 HE
    simp_arith []
    rfl) ?_
  obtain ⟨ρ', e5, s7, hρ⟩ : ∃ ρ', forD (gV 7) (SH5b W) (gs.map fun k : Nat => D.int k) (HE (.val (PyE.enc p)) (.val (PyE.enc c)) (.val (gD gs)) (.val (pcD (prt p c gs))) (.val (encL (due p c []))) .no .no .no) n = some (.ok (.nx ρ'), n) ∧ ∃ s7, ρ' = HE (.val (PyE.enc p)) (.val (PyE.enc c)) (.val (gD gs)) (.val (pcD (prt p c gs))) (.val (encL (due p c gs))) (jS s7) .no .no := by
    refine for_pre (h := fun k : Nat => D.int k) (fun ys ρ => ∃ s7, ρ = HE (.val (PyE.enc p)) (.val (PyE.enc c)) (.val (gD gs)) (.val (pcD (prt p c gs))) (.val (encL (due p c ys))) (jS s7) .no .no) (ys := []) ?_ (List.nil_append gs) ⟨none, rfl⟩
    rintro ys g zs e ρ ⟨s7, rfl⟩
    have hm : g ∈ gs := by rw [← e]; simp
    have e2 : due p c (ys ++ [g]) = due p c ys ++ d1 p c g := by unfold due; rw [List.flatMap_append]; simp
    have ly := due_len p c ys
    have lg := d1_len p c g
    have lg2 := g3 g hm
    have : ys.sum ≤ gs.sum := by rw [← e, List.sum_append]; omega
    refine ⟨_, _, rfl, ?_, some (.int g), rfl⟩
    rw [e2]
    have ad : dAdd (encL (due p c ys)) (encL (d1 p c g)) = some (encL (due p c ys ++ d1 p c g)) := by
      unfold encL
      rw [dAdd_lst (by rw [List.length_map, List.length_map]; omega), List.map_append]
    unfold SH5b SH5b0 HE
    by_cases z : 0 < g
    · have e1 : d1 p c g = pw [p] (g - 1) ++ [c] := if_pos z
      have ei : (g : Int) - 1 = ((g - 1 : Nat) : Int) := by omega
      have ml : dMulL (.lst [PyE.enc p]) (.int ((g : Int) - 1)) = some (.lst ((pw [p] (g - 1)).map PyE.enc)) := by
        rw [ei, dMulL_ok (by omega) (by simp), ← pw_map]
        rfl
      have ad2 : dAdd (.lst ((pw [p] (g - 1)).map PyE.enc)) (.lst [PyE.enc c]) = some (encL (d1 p c g)) := by
        rw [dAdd_lst (by rw [List.length_map, pw_one, List.length_replicate]; simp; omega), e1]
        unfold encL
        rw [List.map_append]
        rfl
      simp_arith [ml, ad2, ad]
      rfl
    · have e1 : d1 p c g = [] := if_neg z
      have ad' : dAdd (encL (due p c ys)) (.lst []) = some (encL (due p c ys ++ d1 p c g)) := by
        rw [← ad, e1]
        rfl
      simp_arith [ad']
      rfl
  subst hρ
  refine sq (ρ1 := _) (n1 := n) (by
    have it : dItems (gD gs) = some (gs.map fun k : Nat => D.int k) := rfl
    rw [← e5]
    unfold SH5 HE
    simp_arith [it]) ?_
  have e6 : SH6 W (HE (.val (PyE.enc p)) (.val (PyE.enc c)) (.val (gD gs)) (.val (pcD (prt p c gs))) (.val (encL (due p c gs))) (jS s7) .no .no) n = some (.ok (.nx (HE (.val (PyE.enc p)) (.val (PyE.enc c)) (.val (gD gs)) (.val (pcD (prt p c gs))) (.val (encL (due p c gs))) (jS s7) (.val (.bl (evR p))) .no)), n) := by
    obtain ⟨b, g, a, rfl, hb, g0, gt, gm⟩ := hp
    obtain ⟨l1, l2, l3⟩ := rowB_len hb
    have lt := ltakes_ok g (by omega) n
    have lm := lmakes_ok g (by omega) n
    have x1 : dIx (PyE.enc (rw3 b g a)) (.int 1) = some (encT g) := rfl
    have dd : decide ((K57.T g : Int) = K57.M g) = evR (rw3 b g a) := decide_eq_decide.mpr (by omega)
    unfold SH6 HE
    simp_arith [x1, lt, lm, dEq_int, dd]
  refine sq e6 ?_
  have e7 : SH7 W (HE (.val (PyE.enc p)) (.val (PyE.enc c)) (.val (gD gs)) (.val (pcD (prt p c gs))) (.val (encL (due p c gs))) (jS s7) (.val (.bl (evR p))) .no) n = some (.ok (.nx (HE (.val (PyE.enc p)) (.val (PyE.enc c)) (.val (gD gs)) (.val (pcD (prt p c gs))) (.val (encL (due p c gs))) (jS s7) (.val (.bl (evR p))) (.val (.lst (((prt p c gs).filter isB).map pD))))), n) := by
    unfold SH7 HE
    simp_arith [pc_parts]
    rw [comp_flt (fun q => if isB q then some (pD q) else none) fun q hq => by
      cases q with
      | row r =>
        have x0 : dIx (pD (.row r)) (.int 0) = some (.str "row") := rfl
        simp_arith [x0, s_rb]
        rfl
      | blk t rs =>
        have x0 : dIx (pD (.blk t rs)) (.int 0) = some (.str "block") := rfl
        simp_arith [x0, s_bb]
        rfl]
    rw [filterMap_if]
    have lf := List.length_filter_le isB (prt p c gs)
    simp_arith []
  refine sq e7 ?_
  have e8 : SH8 W (HE (.val (PyE.enc p)) (.val (PyE.enc c)) (.val (gD gs)) (.val (pcD (prt p c gs))) (.val (encL (due p c gs))) (jS s7) (.val (.bl (evR p))) (.val (.lst (((prt p c gs).filter isB).map pD)))) n = some (.ok (.nx (HE (.val (PyE.enc p)) (.val (PyE.enc c)) (.val (gD gs)) (.val (pcD (prt p c gs))) (.val (encL (due p c gs))) (jS s7) (.val (.bl (evR p))) (.val (.lst (((prt p c gs).filter isB).map pD))))), n) := by
    have it : dItems (gD gs) = some (gs.map fun k : Nat => D.int k) := rfl
    have bm := blocks_many p c gs
    unfold SH8 HE
    simp_arith [it]
    rw [comp_flt (h := fun k : Nat => D.int k) (fun g => if decide (3 ≤ g) && evR p then some (D.int (g : Nat)) else none) fun g hg => by
      by_cases z : 3 ≤ g
      · rw [decide_eq_true z]
        cases q : evR p <;> simp_arith [] <;> rfl
      · rw [decide_eq_false z]
        simp_arith []
        rfl]
    rw [filterMap_if]
    have lf := List.length_filter_le (fun g => decide (3 ≤ g) && evR p) gs
    simp_arith [bm, wc_ne, pc_way, pc_cast]
  refine sq e8 ?_
  unfold SH9 HE
  have eq := dEq_L (due p c gs) (due p c gs)
  rw [decide_eq_true rfl] at eq
  have lf := List.length_filter_le isB (prt p c gs)
  simp_arith [pc_parts, ar, eq]
  rw [comp_of (h := pD) (fun _ => D.bl true) fun q hq => by
    obtain ⟨k, hk, rfl⟩ := blk_form hq
    have x1 : dIx (pD (.blk k [p])) (.int 1) = some (.tup [.int k, .int 0]) := rfl
    have x2 : dIx (pD (.blk k [p])) (.int 2) = some (.tup [PyE.enc p]) := rfl
    have re := row_eq p p
    rw [decide_eq_true rfl] at re
    simp_arith [x1, x2, re]]
  have al := all_map (fun _ : Part => true) ((prt p c gs).filter isB)
  have at' : ((prt p c gs).filter isB).all (fun _ => true) = true := by rw [List.all_eq_true]; exact fun _ _ => rfl
  rw [at'] at al
  simp_arith [al]
theorem kd_near (k : Kd) : k.m ≤ k.t + 1 ∧ k.t ≤ k.m + 1 := by cases k <;> decide
theorem w_near : ∀ w : Word, K57.M w ≤ K57.T w + w.length ∧ K57.T w ≤ K57.M w + w.length
  | [] => ⟨by decide, by decide⟩
  | c :: w => by
    have h := w_near w
    have k := kd_near c.k
    have e1 : K57.M (c :: w) = c.k.m + K57.M w := by unfold K57.M; rw [List.map_cons, List.sum_cons]
    have e2 : K57.T (c :: w) = c.k.t + K57.T w := by unfold K57.T; rw [List.map_cons, List.sum_cons]
    rw [List.length_cons]
    omega
theorem chg_near {b g a : Word} (hb : b.length ≤ 2) (ha : a.length ≤ 2) : -12 ≤ chg (rw3 b g a) ∧ chg (rw3 b g a) ≤ 12 := by
  have h1 := w_near b
  have h2 := w_near a
  have e : chg (rw3 b g a) = (K57.M b : Int) + K57.M a - K57.T b - K57.T a := rfl
  rw [e]
  omega
theorem ys_b : Ys [.str "b"] := ⟨by simp, fun d h => ⟨.b, List.mem_singleton.mp h⟩⟩
theorem takeN (W : Wd) (m : Nat) (h : 0 < m) (n : Int) : ∃ v : Nat, v < m ∧ f__law_take W [.drw, .int m] n = some (.ok (.int v), n + 1) := by
  obtain ⟨v, h0, h1, e⟩ := take_ok W m n (by omega)
  obtain ⟨k, rfl⟩ : ∃ k : Nat, v = (k : Int) := ⟨v.toNat, by omega⟩
  exact ⟨k, by omega, e⟩
def kt2 : Word := [⟨.k2tog, .a⟩]
theorem law_shaped_ok (W : Wd) (n : Int) : ∃ n', f__law_shaped W [.drw, KT] n = some (.ok (.bl true), n') := by
  obtain ⟨b, g, a, n1, z1, e1⟩ := easy_row_ok W _ ys_a n
  obtain ⟨b2, g2, a2, n2, z2, e2⟩ := easy_row_ok W _ ys_b n1
  obtain ⟨v, hv, e3⟩ := takeN W 4 (by omega) n2
  replace e3 : f__law_take W [.drw, .int 4] n2 = some (.ok (.int v), n2 + 1) := e3
  obtain ⟨s2, v2⟩ := z2.sm
  obtain ⟨s1, v1⟩ := z1.sm
  have f0 : SH0 W (HE .no .no .no .no .no .no .no .no) n = some (.ok (.nx (HE (.val (PyE.enc (rw3 b g a))) (.val (PyE.enc (rw3 b2 g2 a2))) .no .no .no .no .no .no)), n2) := by
    unfold SH0 HE
    simp_arith [e1, e2]
  have fin : ∀ r, SH W (HE .no .no .no .no .no .no .no .no) n = r → f__law_shaped W [.drw, KT] n = bindR r runK := fun r e => by
    unfold f__law_shaped
    rw [runD_ap, bind_ap, SH_eq, ← e]
    rfl
  have en : ∀ w : Word, dNe (encT w) (.tup [.tup [.str "k2tog", .str "a"]]) = some (.bl (!decide (w = kt2))) := fun w => dNe_T w kt2
  by_cases hz : v = 0
  · have f1 : SH1 W (HE (.val (PyE.enc (rw3 b g a))) (.val (PyE.enc (rw3 b2 g2 a2))) .no .no .no .no .no .no) n2 = some (.ok (.nx (HE (.val (PyE.enc (rw3 b kt2 a))) (.val (PyE.enc (rw3 b2 g2 a2))) .no .no .no .no .no .no)), n2 + 1) := by
      have x0 : dIx (PyE.enc (rw3 b g a)) (.int 0) = some (encT b) := rfl
      have x2 : dIx (PyE.enc (rw3 b g a)) (.int 2) = some (encT a) := rfl
      unfold SH1 HE
      simp_arith [e3, x0, x2]
      rfl
    obtain ⟨u, hu, e4⟩ := takeN W 4 (by omega) (n2 + 1)
    replace e4 : f__law_take W [.drw, .int 4] (n2 + 1) = some (.ok (.int u), n2 + 1 + 1) := e4
    have f2 : SH2 W (HE (.val (PyE.enc (rw3 b kt2 a))) (.val (PyE.enc (rw3 b2 g2 a2))) .no .no .no .no .no .no) (n2 + 1) = some (.ok (.nx (HE (.val (PyE.enc (rw3 b kt2 a))) (.val (PyE.enc (rw3 b2 g2 a2))) (.val (gD [u])) .no .no .no .no .no)), n2 + 1 + 1) := by
      have x1 : dIx (PyE.enc (rw3 b kt2 a)) (.int 1) = some (encT kt2) := rfl
      have e := en kt2
      rw [decide_eq_true rfl] at e
      unfold SH2 HE
      simp_arith [e4, x1, e]
      rfl
    have sm : Sm (rw3 b kt2 a) := ⟨b, kt2, a, rfl, by
      have h1 : K57.T kt2 = 2 := rfl
      have h2 : kt2.length = 1 := rfl
      have h3 := z1.1
      have h4 := z1.2.1
      unfold rowB
      rw [if_neg (by decide), h1, h2]
      simp
      omega, by decide, .inr rfl, by decide⟩
    have tl := sh_tail W sm s2 (chg_near z1.1 z1.2.1) (gs := [u]) (by simp) (by simp) (fun g hg => by rw [List.mem_singleton.mp hg]; omega) (by simp; omega) (Nat.le_succ_of_le (odd_one v2 (by omega))) (n2 + 1 + 1)
    refine ⟨n2 + 1 + 1, ?_⟩
    rw [fin _ (sq f0 (sq f1 (sq f2 tl)))]
    rfl
  · have f1 : SH1 W (HE (.val (PyE.enc (rw3 b g a))) (.val (PyE.enc (rw3 b2 g2 a2))) .no .no .no .no .no .no) n2 = some (.ok (.nx (HE (.val (PyE.enc (rw3 b g a))) (.val (PyE.enc (rw3 b2 g2 a2))) .no .no .no .no .no .no)), n2 + 1) := by
      unfold SH1 HE
      simp_arith [e3]
    obtain ⟨u, hu, e4⟩ := takeN W 4 (by omega) (n2 + 1)
    replace e4 : f__law_take W [.drw, .int 4] (n2 + 1) = some (.ok (.int u), n2 + 1 + 1) := e4
    obtain ⟨gs, n3, cg, gl, gp⟩ := comp_drw (b := compB [10] (gV 10) tYesD (eCall (f__law_take W) (eCons (eVar 0) (eCons (eC (.int 5)) eNil))) (HE (.val (PyE.enc (rw3 b g a))) (.val (PyE.enc (rw3 b2 g2 a2))) .no .no .no .no .no .no)) (fun k : Nat => D.int k) (fun k => k < 5) (ds := (List.range (1 + u)).map fun i : Nat => D.int i) (n := n2 + 1 + 1) fun d hd n => by
      obtain ⟨v, hv, e⟩ := takeN W 5 (by omega) n
      replace e : f__law_take W [.drw, .int 5] n = some (.ok (.int v), n + 1) := e
      refine ⟨v, n + 1, hv, ?_⟩
      unfold HE
      simp_arith [e]
    rw [List.length_map, List.length_range] at gl
    have gsum : gs.sum ≤ 4 * gs.length := by
      clear cg gl
      induction gs with
      | nil => simp
      | cons a r ih =>
        have := ih fun q hq => gp q (List.mem_cons_of_mem _ hq)
        have := gp a List.mem_cons_self
        rw [List.sum_cons, List.length_cons]
        omega
    have f2 : SH2 W (HE (.val (PyE.enc (rw3 b g a))) (.val (PyE.enc (rw3 b2 g2 a2))) .no .no .no .no .no .no) (n2 + 1) = some (.ok (.nx (HE (.val (PyE.enc (rw3 b g a))) (.val (PyE.enc (rw3 b2 g2 a2))) (.val (gD gs)) .no .no .no .no .no)), n3) := by
      have x1 : dIx (PyE.enc (rw3 b g a)) (.int 1) = some (encT g) := rfl
      have e := en g
      rw [decide_eq_false (fun z => by
        have h1 : K57.T kt2 = 2 := rfl
        have h2 : K57.M kt2 = 1 := rfl
        have := z1.2.2.2.2.2
        rw [z, h1, h2] at this
        omega)] at e
      have rg := rng1_nat (k := 1 + u) (by omega)
      rw [show (((1 + u : Nat) : Int)) = 1 + (u : Int) by omega] at rg
      have gd : D.lst (gs.map fun k : Nat => D.int k) = gD gs := rfl
      unfold HE at cg
      unfold SH2 HE
      simp_arith [e4, x1, e, rg, cg, gd]
    have tl := sh_tail W s1 s2 (chg_near z1.1 z1.2.1) (gs := gs) (by omega) (by omega) (fun g hg => by have := gp g hg; omega) (by omega) (by rw [odd_even v1 v2]; omega) n3
    refine ⟨n3, ?_⟩
    rw [fin _ (sq f0 (sq f1 (sq f2 tl)))]
    rfl
end K57
end

section
set_option Elab.async false
set_option linter.all false
set_option autoImplicit false
set_option maxRecDepth 100000
set_option maxHeartbeats 400000
local macro_rules
  | `(tactic| simp_arith [$ts,*]) => `(tactic| simp (disch := first | omega | (simp only [List.length_cons, List.length_nil, List.length_map, List.length_range, List.length_append] <;> omega) | assumption) only [DL.bind_ap, DL.pure_ap, DL.opt_some, DL.opt_none, DL.bindR_ok, DL.bindR_none, DL.bindR_err, DL.bindR_assoc, DL.selB_true, DL.selB_false, DL.seqK_nx, DL.seqK_bk, DL.seqK_ct, DL.seqK_ret, DL.runK_ret, DL.runK_nx, DL.runIK_nx, DL.turnK_nx, DL.turnK_ct, DL.turnK_bk, DL.turnK_ret, DL.makeK_obj, DL.intK_int, DL.chainK_true, DL.chainK_false, DL.consO_some, DL.consO_none, DL.eVar_0, DL.eVar_s, DL.eC_ap, DL.eNil_ap, DL.eCons_ap, DL.eTup_ap, DL.eLst_ap, DL.e2_ap, DL.e1_ap, DL.eB_ap, DL.eCall_ap, DL.eMake_ap, DL.eMeth_ap, DL.eIf_ap, DL.eAnd_ap, DL.eOr_ap, DL.eNot_ap, DL.eCut_ap, DL.oNone_ap, DL.oSome_ap, DL.eChain_ap, DL.tB_ap, DL.tTru_ap, DL.tAndD_ap, DL.tOrD_ap, DL.tNotD_ap, DL.tYesD_ap, DL.dBool_bl, DL.dTru_bl, DL.isNon_non, DL.isNon_int, DL.isNon_tup, DL.sNx_ap, DL.sSeq_ap, DL.sRet_ap, DL.sExp_ap, DL.sAsg_ap, DL.sIf_ap, DL.sFor_ap, DL.sWhile_ap, DL.sAug_ap, DL.sUp_ap, DL.sPar_ap, DL.own_0, DL.own_s, DL.gV_ap, DL.gT_ap, DL.gsN_ap, DL.gsC_ap, DL.iOf_ap, DL.iRng1D_ap, DL.iRng2D_ap, DL.dItems_tup, DL.dItems_lst, DL.calmR_ok, DL.calm_ap, DL.eComp_ap, DL.ownLst_0, DL.ownLst_s, DL.sApp_ap, DL.compB_ap, DL.hide_nil, DL.hide_no, DL.hide_val, DL.hide_own, DL.hide_j, DL.wipeD_nil, DL.wipeD_cons, DL.runD_ap, DL.runI_ap, DL.forD_nil, DL.eOwn2_ap, DL.e2M_ap, DL.e1M_ap, DL.mOwn_ap, DL.mOwn1_ap, DL.optK_bl, DL.mOwnIn_ap, DL.tOwn_ap, DL.eNotT_ap, DL.eBoolO_ap, DL.iZipD_ap, DL.sOwnN_ap, DL.cutK_lst, DL.nCut_ap, DL.nLst_ap, DL.sFrz_ap, DL.eIxT_ap, DL.sPutT_ap, DL.sOwn2_ap, DL.sOwn_ap, DL.nComp_ap, DL.nAdd_ap, DL.eIdx_ap, DL.isLst_lst, DL.eOwnIx_ap, DL.sPutL_ap, DL.sExtM_ap, DL.sExt_ap, DL.sBk_ap, DL.eChain3_ap, DL.nLstOf_ap, DL.itemsLT_lst, DL.itemsLT_tup, DL.iEnumD_ap, DL.dEnum_lst, DL.dEnum_tup, DL.sPutL2_ap, DL.putE_ap, DL.two_tup, DL.dAdd_int, DL.dSub_int, DL.dNeg_int, DL.dLen_tup, DL.dLen_lst, DL.lt_t, DL.lt_f, DL.gt_t, DL.gt_f, DL.ge_t, DL.ge_f, DL.le_t, DL.le_f, DL.eq_t, DL.eq_f, DL.ne_t, DL.ne_f, DL.mulR, DL.mulL, DL.mulNR, DL.mulNL, DL.dMod_int, DL.dDiv_int, DL.tru_bl, DL.iL_len, DL.iL_items, DL.fst2, DL.snd2, DL.fst3, DL.snd3, DL.trd3, DL.all_nil, DL.mkTup_of, DL.mkLst_of, List.map_cons, List.map_nil, List.cons_append, List.nil_append, List.set_cons_zero, List.set_cons_succ, List.length_cons, List.length_nil, List.length_map, List.length_range, List.replicate_succ, List.replicate_zero, List.foldl_cons, List.foldl_nil, List.zip_cons_cons, List.zip_nil_right, Option.bind_some, Option.bind_none, Bool.not_true, Bool.not_false, Bool.and_true, Bool.true_and, Bool.and_false, Bool.false_and, Bool.or_true, Bool.true_or, Bool.or_false, Bool.false_or, if_true, if_false, $ts,*])
namespace K57
open DL PySem L2 P_k57_whole_spread PyProof.Rows
theorem le_sum : ∀ {g : List Nat} {x : Nat}, x ∈ g → x ≤ g.sum
  | y :: g, x, h => by
    rw [List.sum_cons]
    rcases List.mem_cons.mp h with rfl | h
    · omega
    · have := le_sum h; omega
theorem gaps_of {g : List Nat} (h1 : g ≠ []) (h2 : g.length ≤ 60) (h3 : g.sum ≤ 10000) : Gaps g := ⟨h1, h2, fun k hk => by have := le_sum hk; omega, by omega⟩
theorem P_spr (S k : Nat) : ∀ i, i ≤ k → P (spr S k) i = i * S / k
  | 0, _ => by simp [P]
  | i + 1, h => by
    show P (spr S k) i + G (spr S k) i = _
    rw [P_spr S k i (by omega)]
    unfold G
    rw [spr_len, Nat.mod_eq_of_lt (by omega), spr_get (by omega)]
    have := Q_mono S k i (i + 1) (by omega)
    omega
theorem spr_take (S k i : Nat) (h : i ≤ k) : ((spr S k).take i).sum = i * S / k := by
  rw [← P_take _ _ (by rw [spr_len]; exact h), P_spr S k i h]
theorem spr_sum (S k : Nat) (h : 1 ≤ k) : (spr S k).sum = S := by
  have := spr_take S k k (Nat.le_refl _)
  rw [List.take_of_length_le (by rw [spr_len]; omega)] at this
  rw [this]
  exact Nat.mul_div_cancel_left S (by omega)
theorem rot_sum (g : List Nat) (s : Nat) : (g.drop s ++ g.take s).sum = g.sum := by
  rw [List.sum_append, Nat.add_comm, ← List.sum_append, List.take_append_drop]
theorem rot_len (g : List Nat) (s : Nat) : (g.drop s ++ g.take s).length = g.length := by
  rw [List.length_append, List.length_drop, List.length_take]; omega
theorem sum_set : ∀ (g : List Nat) (i v : Nat), i < g.length → (g.set i v).sum + g.getD i 0 = g.sum + v
  | x :: g, 0, v, _ => by simp; omega
  | x :: g, i + 1, v, h => by
    have := sum_set g i v (by simpa using h)
    simp at this ⊢
    omega
theorem gD_set (g : List Nat) (i v : Nat) (h : i < g.length) : uSet (.int (i : Int)) (.int (v : Int)) (gD g) = some (gD (g.set i v)) := by
  unfold gD
  rw [uSet_ok (by rw [List.length_map]; exact h), List.map_set]
theorem gD_ixo (g : List Nat) {j : Nat} (h : j < g.length) : dIx (gD g) (.int (j : Int)) = some (.int (g.getD j 0 : Nat)) := gD_get g h
def LG0 (W : Wd) : SX := (sAsg (gV 2) (eCall (f__law_kinds) eNil))
def LG1b0 (W : Wd) : SX := (sAsg (gV 4) (e2 dAdd (eC (.int 1)) (eCall (f__law_take W) (eCons (eVar 1) (eCons (eC (.int 9)) eNil)))))
def LG1b1 (W : Wd) : SX := (sAsg (gV 5) (eIf (tB (e2 dGt (eCall (f__law_take W) (eCons (eVar 1) (eCons (eC (.int 4)) eNil))) (eC (.int 0)))) (eCall (f__law_take W) (eCons (eVar 1) (eCons (e2 dAdd (e2 dMul (eVar 4) (e2 dAdd (eC (.int 2)) (eCall (f__law_take W) (eCons (eVar 1) (eCons (eC (.int 5)) eNil))))) (eC (.int 1))) eNil))) (e2 dSub (eC (.int 10000)) (eCall (f__law_take W) (eCons (eVar 1) (eCons (eC (.int 500)) eNil))))))
def LG1b2 (W : Wd) : SX := (sAsg (gT (gsC (gV 6) (gsC (gV 7) gsN))) (eTup (eCons (eCall (f_spread) (eCons (eVar 5) (eCons (eVar 4) eNil))) (eCons (eCall (f__law_take W) (eCons (eVar 1) (eCons (eVar 4) eNil))) eNil))))
def LG1b3 (W : Wd) : SX := (sIf (tOrD (tB (e2 dNe (eB dLen (eCons (eVar 6) eNil)) (eVar 4))) (tOrD (tB (e2 dNe (eB dSum (eCons (eVar 6) eNil)) (eVar 5))) (tB (e2 dNe (eComp [9] (gV 9) (iRng1D (eCons (eVar 4) eNil)) tYesD (eB dSum (eCons (eCut (eVar 6) oNone (oSome (e2 dAdd (eVar 9) (eC (.int 1))))) eNil))) (eComp [9] (gV 9) (iRng1D (eCons (eVar 4) eNil)) tYesD (e2 dDiv (e2 dMul (e2 dAdd (eVar 9) (eC (.int 1))) (eVar 5)) (eVar 4))))))) (sRet (eC (.bl false))) sNx)
def LG1b4 (W : Wd) : SX := (sAsg (gV 8) (e2 dAdd (eCut (eVar 6) (oSome (eVar 7)) oNone) (eCut (eVar 6) oNone (oSome (eVar 7)))))
def LG1b5 (W : Wd) : SX := (sIf (tOrD (tNotD (tTru (eCall (f__law_judged) (eCons (eVar 6) eNil)))) (tNotD (tTru (eCall (f__law_judged) (eCons (eVar 8) eNil))))) (sRet (eC (.bl false))) sNx)
def LG1b6 (W : Wd) : SX := (sPar [9, 10] (eCons (eCall (f__law_take W) (eCons (eVar 1) (eCons (eVar 4) eNil))) (eCons (eCall (f__law_take W) (eCons (eVar 1) (eCons (eVar 4) eNil))) eNil)))
def LG1b7 (W : Wd) : SX := (sOwnN 11 (nLstOf (eVar 8)))
def LG1b8 (W : Wd) : SX := (sIf (tB (e2 dGt (eOwnIx 11 (eVar 9)) (eC (.int 0)))) (sPutL2 11 (eTup (eCons (e2 dSub (eOwnIx 11 (eVar 9)) (eC (.int 1))) (eCons (e2 dAdd (eOwnIx 11 (eVar 10)) (eIf (tB (e2 dNe (eVar 9) (eVar 10))) (eC (.int 1)) (eC (.int 0)))) eNil))) (eVar 9) (eVar 10)) sNx)
def LG1b9 (W : Wd) : SX := (sFrz 11)
def LG1b10 (W : Wd) : SX := (sIf (tOrD (tNotD (tTru (eCall (f__law_judged) (eCons (eVar 11) eNil)))) (tNotD (tTru (eCall (f__law_judged) (eCons (eComp [16] (gV 16) (iRng1D (eCons (eVar 4) eNil)) tYesD (eCall (f__law_take W) (eCons (eVar 1) (eCons (eC (.int 4)) eNil)))) eNil))))) (sRet (eC (.bl false))) sNx)
def LG1b11 (W : Wd) : SX := (sAsg (gV 12) (e2 dAdd (eC (.int 1)) (eCall (f__law_take W) (eCons (eVar 1) (eCons (eC (.int 8)) eNil)))))
def LG1b12 (W : Wd) : SX := (sAsg (gV 13) (e2 dAdd (eVar 12) (eCall (f__law_take W) (eCons (eVar 1) (eCons (eC (.int 30)) eNil)))))
def LG1b13 (W : Wd) : SX := (sAsg (gV 14) (eCall (f_schedule) (eCons (eVar 13) (eCons (eVar 12) eNil))))
def LG1b14 (W : Wd) : SX := (sIf (tOrD (tB (e2 dNe (eB dSum (eCons (eComp [17, 18] (gT (gsC (gV 17) (gsC (gV 18) gsN))) (iOf (eVar 14)) tYesD (e2 dMul (eVar 17) (eVar 18))) eNil)) (eVar 13))) (tB (e2 dNe (eB dSum (eCons (eComp [17, 18] (gT (gsC (gV 17) (gsC (gV 18) gsN))) (iOf (eVar 14)) tYesD (eVar 18)) eNil)) (eVar 12)))) (sRet (eC (.bl false))) sNx)
def LG1b15 (W : Wd) : SX := (sIf (tB (e2 dNe (eComp [17, 18] (gT (gsC (gV 17) (gsC (gV 18) gsN))) (iOf (eVar 14)) tYesD (eVar 17)) (e1 dSortSet (eComp [17, 18] (gT (gsC (gV 17) (gsC (gV 18) gsN))) (iOf (eVar 14)) tYesD (eVar 17))))) (sRet (eC (.bl false))) sNx)
def LG1b16 (W : Wd) : SX := (sIf (tOrD (tB (e2 dGt (e2 dIx (e2 dIx (eVar 14) (e1 dNeg (eC (.int 1)))) (eC (.int 0))) (e2 dAdd (e2 dIx (e2 dIx (eVar 14) (eC (.int 0))) (eC (.int 0))) (eC (.int 1))))) (tB (e2 dLt (eB dMinL (eCons (eComp [17, 18] (gT (gsC (gV 17) (gsC (gV 18) gsN))) (iOf (eVar 14)) tYesD (eVar 18)) eNil)) (eC (.int 1))))) (sRet (eC (.bl false))) sNx)
def LG1b (W : Wd) : SX := (sSeq (LG1b0 W) (sSeq (LG1b1 W) (sSeq (LG1b2 W) (sSeq (LG1b3 W) (sSeq (LG1b4 W) (sSeq (LG1b5 W) (sSeq (LG1b6 W) (sSeq (LG1b7 W) (sSeq (LG1b8 W) (sSeq (LG1b9 W) (sSeq (LG1b10 W) (sSeq (LG1b11 W) (sSeq (LG1b12 W) (sSeq (LG1b13 W) (sSeq (LG1b14 W) (sSeq (LG1b15 W) (LG1b16 W)))))))))))))))))
def LG1 (W : Wd) : SX := (sFor (gV 3) (iRng1D (eCons (eC (.int 2)) eNil)) (LG1b W))
def LG2b0 (W : Wd) : SX := (sTry tr3 (sSeqX (sExp (eCall (f_spread) (eCons (e2 dIx (eVar 15) (eC (.int 0))) (eCons (e2 dIx (eVar 15) (eC (.int 1))) eNil)))) (sRet (eC (.bl false)))) sNx)
def LG2b (W : Wd) : SX := (LG2b0 W)
def LG2 (W : Wd) : SX := (sFor (gV 15) (iOf (eTup (eCons (eTup (eCons (e1 dNeg (eC (.int 1))) (eCons (eC (.int 3)) eNil))) (eCons (eTup (eCons (eC (.int 5)) (eCons (eC (.int 0)) eNil))) (eCons (eTup (eCons (eC (.int 10001)) (eCons (eC (.int 2)) eNil))) (eCons (eTup (eCons (eC (.int 5)) (eCons (eC (.int 61)) eNil))) (eCons (eTup (eCons (eC (.bl true)) (eCons (eC (.int 2)) eNil))) (eCons (eTup (eCons (eC (.int 5)) (eCons (eC .non) eNil))) eNil)))))))) (LG2b W))
def LG3b0 (W : Wd) : SX := (sTry tr3 (sSeqX (sExp (eCall (f_judge_spread) (eCons (eVar 15) eNil))) (sRet (eC (.bl false)))) sNx)
def LG3b (W : Wd) : SX := (LG3b0 W)
def LG3 (W : Wd) : SX := (sFor (gV 15) (iOf (eTup (eCons (eLst eNil) (eCons (e2 dMulL (eLst (eCons (eC (.int 1)) eNil)) (eC (.int 61))) (eCons (eLst (eCons (eC (.int 1)) (eCons (e1 dNeg (eC (.int 1))) eNil))) (eCons (eLst (eCons (eC (.bl true)) eNil)) (eCons (eTup (eCons (eC (.int 1)) (eCons (eC (.int 2)) eNil))) (eCons (eC .non) (eCons (eLst (eCons (eC (.int 10001)) eNil)) eNil))))))))) (LG3b W))
def LG4 (W : Wd) : SX := (sRet (eCall (f__law_shaped W) (eCons (eVar 1) (eCons (eVar 2) eNil))))
def LG (W : Wd) : SX := (sSeq (LG0 W) (sSeq (LG1 W) (sSeq (LG2 W) (sSeq (LG3 W) (LG4 W)))))
theorem LG_eq (W : Wd) : g_law W = LG W := rfl
def planD (r t : Int) : D := .lst ((plan r t).map fun p => pr p.1 p.2)
/-- the law's environment, what nobody looks at in options -/
def LJ (s3 : Sl) (o4 o5 o6 o7 o8 o9 o10 o11 o12 o13 o14 o15 o16 o17 o18 : Option D) : DL.Env := LE s3 (jS o4) (jS o5) (jS o6) (jS o7) (jS o8) (jS o9) (jS o10) (jS o11) (jS o12) (jS o13) (jS o14) (jS o15) (jS o16) (jS o17) (jS o18)
/-- one turn of the law -/
theorem turn_ok (W : Wd) (i : Nat) (o4 o5 o6 o7 o8 o9 o10 o11 o12 o13 o14 o15 o16 o17 o18 : Option D) (n : Int) : ∃ q4 q5 q6 q7 q8 q9 q10 q11 q12 q13 q14 q15 q16 q17 q18 : Option D, ∃ n', LG1b W (LJ (.val (.int i)) o4 o5 o6 o7 o8 o9 o10 o11 o12 o13 o14 o15 o16 o17 o18) n = some (.ok (.nx (LJ (.val (.int i)) q4 q5 q6 q7 q8 q9 q10 q11 q12 q13 q14 q15 q16 q17 q18)), n') := by
  obtain ⟨v0, h0, e0⟩ := takeN W 9 (by omega) n
  replace e0 : f__law_take W [.drw, .int 9] n = some (.ok (.int v0), n + 1) := e0
  obtain ⟨k, hk⟩ : ∃ k : Nat, k = 1 + v0 := ⟨_, rfl⟩
  have hkI : (1 : Int) + (v0 : Int) = (k : Int) := by omega
  unfold LJ LE
  have b0 : LG1b0 W [.val .scr, .val .drw, .val KT, .val (.int i), jS o4, jS o5, jS o6, jS o7, jS o8, jS o9, jS o10, jS o11, jS o12, jS o13, jS o14, jS o15, jS o16, jS o17, jS o18] n = some (.ok (.nx [.val .scr, .val .drw, .val KT, .val (.int i), .val (.int k), jS o5, jS o6, jS o7, jS o8, jS o9, jS o10, jS o11, jS o12, jS o13, jS o14, jS o15, jS o16, jS o17, jS o18]), n + 1) := by
    unfold LG1b0
    simp_arith [e0, hkI]
  -- the sum
  obtain ⟨S, n2, hS, b1⟩ : ∃ (S : Nat) (n2 : Int), S ≤ 10000 ∧ LG1b1 W [.val .scr, .val .drw, .val KT, .val (.int i), .val (.int k), jS o5, jS o6, jS o7, jS o8, jS o9, jS o10, jS o11, jS o12, jS o13, jS o14, jS o15, jS o16, jS o17, jS o18] (n + 1) = some (.ok (.nx [.val .scr, .val .drw, .val KT, .val (.int i), .val (.int k), .val (.int S), jS o6, jS o7, jS o8, jS o9, jS o10, jS o11, jS o12, jS o13, jS o14, jS o15, jS o16, jS o17, jS o18]), n2) := by
    obtain ⟨v1, h1, e1⟩ := takeN W 4 (by omega) (n + 1)
    replace e1 : f__law_take W [.drw, .int 4] (n + 1) = some (.ok (.int v1), n + 1 + 1) := e1
    by_cases z : 0 < v1
    · obtain ⟨v2, h2, e2⟩ := takeN W 5 (by omega) (n + 1 + 1)
      replace e2 : f__law_take W [.drw, .int 5] (n + 1 + 1) = some (.ok (.int v2), n + 1 + 1 + 1) := e2
      obtain ⟨v3, h3, e3⟩ := takeN W (k * (2 + v2) + 1) (by omega) (n + 1 + 1 + 1)
      have c : ((k * (2 + v2) + 1 : Nat) : Int) = (k : Int) * (2 + (v2 : Int)) + 1 := by
        rw [Int.natCast_add, Int.natCast_mul, Int.natCast_add]; rfl
      rw [c] at e3
      have : k * (2 + v2) ≤ 9 * 6 := Nat.mul_le_mul (by omega) (by omega)
      refine ⟨v3, n + 1 + 1 + 1 + 1, by omega, ?_⟩
      unfold LG1b1
      simp_arith [e1, e2, e3]
    · obtain ⟨v2, h2, e2⟩ := takeN W 500 (by omega) (n + 1 + 1)
      replace e2 : f__law_take W [.drw, .int 500] (n + 1 + 1) = some (.ok (.int v2), n + 1 + 1 + 1) := e2
      have c : (10000 : Int) - (v2 : Int) = ((10000 - v2 : Nat) : Int) := by omega
      refine ⟨10000 - v2, n + 1 + 1 + 1, by omega, ?_⟩
      unfold LG1b1
      simp_arith [e1, e2, c]
  obtain ⟨s, hs, e3⟩ := takeN W k (by omega) n2
  have sp := spread_ok S k hS (by omega) (by omega) n2
  have sl := spr_len S k
  have ss := spr_sum S k (by omega)
  obtain ⟨g, hg⟩ : ∃ g, g = spr S k := ⟨_, rfl⟩
  have b2 : LG1b2 W [.val .scr, .val .drw, .val KT, .val (.int i), .val (.int k), .val (.int S), jS o6, jS o7, jS o8, jS o9, jS o10, jS o11, jS o12, jS o13, jS o14, jS o15, jS o16, jS o17, jS o18] n2 = some (.ok (.nx [.val .scr, .val .drw, .val KT, .val (.int i), .val (.int k), .val (.int S), .val (gD g), .val (.int s), jS o8, jS o9, jS o10, jS o11, jS o12, jS o13, jS o14, jS o15, jS o16, jS o17, jS o18]), n2 + 1) := by
    unfold LG1b2
    simp_arith [sp, e3, hg]
  have gl : g.length = k := by rw [hg, sl]
  have gs : g.sum = S := by rw [hg, ss]
  have b3 : LG1b3 W [.val .scr, .val .drw, .val KT, .val (.int i), .val (.int k), .val (.int S), .val (gD g), .val (.int s), jS o8, jS o9, jS o10, jS o11, jS o12, jS o13, jS o14, jS o15, jS o16, jS o17, jS o18] (n2 + 1) = some (.ok (.nx [.val .scr, .val .drw, .val KT, .val (.int i), .val (.int k), .val (.int S), .val (gD g), .val (.int s), jS o8, jS o9, jS o10, jS o11, jS o12, jS o13, jS o14, jS o15, jS o16, jS o17, jS o18]), n2 + 1) := by
    have rg := rng1_nat (k := k) (by omega)
    have l := gD_len g
    have su := gD_sum g
    rw [gl] at l
    rw [gs] at su
    unfold LG1b3
    simp_arith [l, su, rg]
    rw [comp_of (h := fun i : Nat => D.int i) (fun a : Nat => .int (((a + 1) * S / k : Nat) : Int)) fun a ha => by
      have ct := gD_to g (a + 1)
      have s1 := gD_sum (g.take (a + 1))
      rw [hg, spr_take S k (a + 1) (by have := List.mem_range.mp ha; omega), ← hg] at s1
      rw [show ((a + 1 : Nat) : Int) = (a : Int) + 1 from rfl] at ct
      simp_arith [ct, s1]]
    simp_arith []
    rw [comp_of (h := fun i : Nat => D.int i) (fun a : Nat => .int (((a + 1) * S / k : Nat) : Int)) fun a ha => by
      obtain ⟨q1, q2, q3, q4⟩ := spr_el S k a (by omega) (by omega) (by omega) (by have := List.mem_range.mp ha; omega)
      have q5 := q3 ((a + 1) * S)
      simp_arith [q1, q5]]
    have ne := gD_ne ((List.range k).map fun a => (a + 1) * S / k) ((List.range k).map fun a => (a + 1) * S / k)
    rw [decide_eq_true rfl, ← gD_list g] at ne
    simp_arith [ne]
  obtain ⟨t, ht⟩ : ∃ t, t = g.drop s ++ g.take s := ⟨_, rfl⟩
  have tl : t.length = k := by rw [ht, rot_len, gl]
  have ts : t.sum = S := by rw [ht, rot_sum, gs]
  have b4 : LG1b4 W [.val .scr, .val .drw, .val KT, .val (.int i), .val (.int k), .val (.int S), .val (gD g), .val (.int s), jS o8, jS o9, jS o10, jS o11, jS o12, jS o13, jS o14, jS o15, jS o16, jS o17, jS o18] (n2 + 1) = some (.ok (.nx [.val .scr, .val .drw, .val KT, .val (.int i), .val (.int k), .val (.int S), .val (gD g), .val (.int s), .val (gD t), jS o9, jS o10, jS o11, jS o12, jS o13, jS o14, jS o15, jS o16, jS o17, jS o18]), n2 + 1) := by
    have c1 := gD_from g s
    have c2 := gD_to g s
    have ad := gD_app2 (g.drop s) (g.take s) (by rw [← List.length_append, rot_len, gl]; omega)
    unfold LG1b4
    simp_arith [c1, c2, ad, ht]
  have nn : ∀ x : List Nat, x.length = k → x ≠ [] := fun x h e => by rw [e] at h; simp at h; omega
  have b5 : LG1b5 W [.val .scr, .val .drw, .val KT, .val (.int i), .val (.int k), .val (.int S), .val (gD g), .val (.int s), .val (gD t), jS o9, jS o10, jS o11, jS o12, jS o13, jS o14, jS o15, jS o16, jS o17, jS o18] (n2 + 1) = some (.ok (.nx [.val .scr, .val .drw, .val KT, .val (.int i), .val (.int k), .val (.int S), .val (gD g), .val (.int s), .val (gD t), jS o9, jS o10, jS o11, jS o12, jS o13, jS o14, jS o15, jS o16, jS o17, jS o18]), n2 + 1) := by
    have j1 := judged_ok (gaps_of (nn g gl) (by omega) (by omega)) (by omega) (n2 + 1)
    have j2 := judged_ok (gaps_of (nn t tl) (by omega) (by omega)) (by omega) (n2 + 1)
    unfold LG1b5
    simp_arith [j1, j2]
  obtain ⟨x, hx, e6⟩ := takeN W k (by omega) (n2 + 1)
  obtain ⟨y, hy, e7⟩ := takeN W k (by omega) (n2 + 1 + 1)
  have b6 : LG1b6 W [.val .scr, .val .drw, .val KT, .val (.int i), .val (.int k), .val (.int S), .val (gD g), .val (.int s), .val (gD t), jS o9, jS o10, jS o11, jS o12, jS o13, jS o14, jS o15, jS o16, jS o17, jS o18] (n2 + 1) = some (.ok (.nx [.val .scr, .val .drw, .val KT, .val (.int i), .val (.int k), .val (.int S), .val (gD g), .val (.int s), .val (gD t), .val (.int x), .val (.int y), jS o11, jS o12, jS o13, jS o14, jS o15, jS o16, jS o17, jS o18]), n2 + 1 + 1 + 1) := by
    unfold LG1b6
    simp_arith [e6, e7]
  have b7 : LG1b7 W [.val .scr, .val .drw, .val KT, .val (.int i), .val (.int k), .val (.int S), .val (gD g), .val (.int s), .val (gD t), .val (.int x), .val (.int y), jS o11, jS o12, jS o13, jS o14, jS o15, jS o16, jS o17, jS o18] (n2 + 1 + 1 + 1) = some (.ok (.nx [.val .scr, .val .drw, .val KT, .val (.int i), .val (.int k), .val (.int S), .val (gD g), .val (.int s), .val (gD t), .val (.int x), .val (.int y), .own (gD t), jS o12, jS o13, jS o14, jS o15, jS o16, jS o17, jS o18]), n2 + 1 + 1 + 1) := rfl
  obtain ⟨m, ml, ms, b8⟩ : ∃ m : List Nat, m.length = k ∧ m.sum = S ∧ LG1b8 W [.val .scr, .val .drw, .val KT, .val (.int i), .val (.int k), .val (.int S), .val (gD g), .val (.int s), .val (gD t), .val (.int x), .val (.int y), .own (gD t), jS o12, jS o13, jS o14, jS o15, jS o16, jS o17, jS o18] (n2 + 1 + 1 + 1) = some (.ok (.nx [.val .scr, .val .drw, .val KT, .val (.int i), .val (.int k), .val (.int S), .val (gD g), .val (.int s), .val (gD t), .val (.int x), .val (.int y), .own (gD m), jS o12, jS o13, jS o14, jS o15, jS o16, jS o17, jS o18]), n2 + 1 + 1 + 1) := by
    have ix := gD_ixo t (j := x) (by omega)
    have iy := gD_ixo t (j := y) (by omega)
    have ow0 : ∀ (z : List Nat) (r : DL.Env), ownLst 0 (Sl.own (gD z) :: r) = some () := fun _ _ => rfl
    have ow : ownLst 11 [.val .scr, .val .drw, .val KT, .val (.int i), .val (.int k), .val (.int S), .val (gD g), .val (.int s), .val (gD t), .val (.int x), .val (.int y), .own (gD t), jS o12, jS o13, jS o14, jS o15, jS o16, jS o17, jS o18] = some () := rfl
    by_cases z : 0 < t.getD x 0
    · have cx : ((t.getD x 0 : Nat) : Int) - 1 = ((t.getD x 0 - 1 : Nat) : Int) := by omega
      have u1 := gD_set t x (t.getD x 0 - 1) (by omega)
      have s1 := sum_set t x (t.getD x 0 - 1) (by omega)
      have own2 : ∀ z : List Nat, ownLst 11 ([.val .scr, .val .drw, .val KT, .val (.int i), .val (.int k), .val (.int S), .val (gD g), .val (.int s), .val (gD t), .val (.int x), .val (.int y), .own (gD t), jS o12, jS o13, jS o14, jS o15, jS o16, jS o17, jS o18].set 11 (.own (gD z))) = some () := fun _ => rfl
      by_cases e : x = y
      · subst e
        refine ⟨(t.set x (t.getD x 0 - 1)).set x (t.getD x 0), by rw [List.length_set, List.length_set]; exact tl, ?_, ?_⟩
        · rw [List.set_set]
          have := sum_set t x (t.getD x 0) (by omega)
          omega
        · have u2 := gD_set (t.set x (t.getD x 0 - 1)) x (t.getD x 0) (by rw [List.length_set]; omega)
          unfold LG1b8
          simp_arith [ix, ow, ow0, cx, u1, u2, Int.add_zero]
      · have c1 : ((t.getD y 0 : Nat) : Int) + 1 = ((t.getD y 0 + 1 : Nat) : Int) := by omega
        have u2 := gD_set (t.set x (t.getD x 0 - 1)) y (t.getD y 0 + 1) (by rw [List.length_set]; omega)
        refine ⟨(t.set x (t.getD x 0 - 1)).set y (t.getD y 0 + 1), by rw [List.length_set, List.length_set]; exact tl, ?_, ?_⟩
        · have s2 := sum_set (t.set x (t.getD x 0 - 1)) y (t.getD y 0 + 1) (by rw [List.length_set]; omega)
          have : (t.set x (t.getD x 0 - 1)).getD y 0 = t.getD y 0 := by
            rw [List.getD_eq_getElem?_getD, List.getElem?_set_ne e, ← List.getD_eq_getElem?_getD]
          omega
        · have nxy : (x : Int) < y ∨ (y : Int) < x := by omega
          unfold LG1b8
          simp_arith [ix, iy, ow, ow0, cx, c1, u1, u2]
    · refine ⟨t, tl, ts, ?_⟩
      unfold LG1b8
      simp_arith [ix, ow]
  have b9 : LG1b9 W [.val .scr, .val .drw, .val KT, .val (.int i), .val (.int k), .val (.int S), .val (gD g), .val (.int s), .val (gD t), .val (.int x), .val (.int y), .own (gD m), jS o12, jS o13, jS o14, jS o15, jS o16, jS o17, jS o18] (n2 + 1 + 1 + 1) = some (.ok (.nx [.val .scr, .val .drw, .val KT, .val (.int i), .val (.int k), .val (.int S), .val (gD g), .val (.int s), .val (gD t), .val (.int x), .val (.int y), .val (gD m), jS o12, jS o13, jS o14, jS o15, jS o16, jS o17, jS o18]), n2 + 1 + 1 + 1) := rfl
  obtain ⟨ds, n3, cd, dl, dp⟩ := comp_drw (b := compB [16] (gV 16) tYesD (eCall (f__law_take W) (eCons (eVar 1) (eCons (eC (.int 4)) eNil))) [.val .scr, .val .drw, .val KT, .val (.int i), .val (.int k), .val (.int S), .val (gD g), .val (.int s), .val (gD t), .val (.int x), .val (.int y), .val (gD m), jS o12, jS o13, jS o14, jS o15, jS o16, jS o17, jS o18]) (fun k : Nat => D.int k) (fun k => k < 4) (ds := (List.range k).map fun i : Nat => D.int i) (n := n2 + 1 + 1 + 1) fun d hd n => by
    obtain ⟨v, hv, e⟩ := takeN W 4 (by omega) n
    replace e : f__law_take W [.drw, .int 4] n = some (.ok (.int v), n + 1) := e
    refine ⟨v, n + 1, hv, ?_⟩
    simp_arith [e]
  rw [List.length_map, List.length_range] at dl
  have dsum : ds.sum ≤ 4 * ds.length := by
    clear cd dl
    induction ds with
    | nil => simp
    | cons a r ih =>
      have := ih fun q hq => dp q (List.mem_cons_of_mem _ hq)
      have := dp a List.mem_cons_self
      rw [List.sum_cons, List.length_cons]
      omega
  have b10 : LG1b10 W [.val .scr, .val .drw, .val KT, .val (.int i), .val (.int k), .val (.int S), .val (gD g), .val (.int s), .val (gD t), .val (.int x), .val (.int y), .val (gD m), jS o12, jS o13, jS o14, jS o15, jS o16, jS o17, jS o18] (n2 + 1 + 1 + 1) = some (.ok (.nx [.val .scr, .val .drw, .val KT, .val (.int i), .val (.int k), .val (.int S), .val (gD g), .val (.int s), .val (gD t), .val (.int x), .val (.int y), .val (gD m), jS o12, jS o13, jS o14, jS o15, jS o16, jS o17, jS o18]), n3) := by
    have j1 := judged_ok (gaps_of (nn m ml) (by omega) (by omega)) (by omega) (n2 + 1 + 1 + 1)
    have j2 := judged_ok (gaps_of (nn ds dl) (by omega) (by omega)) (by omega) n3
    have rg := rng1_nat (k := k) (by omega)
    have gd : D.lst (ds.map fun k : Nat => D.int k) = gD ds := rfl
    unfold LG1b10
    simp_arith [j1, rg, cd, gd, j2]
  obtain ⟨v4, h4, e4⟩ := takeN W 8 (by omega) n3
  replace e4 : f__law_take W [.drw, .int 8] n3 = some (.ok (.int v4), n3 + 1) := e4
  obtain ⟨v5, h5, e5⟩ := takeN W 30 (by omega) (n3 + 1)
  replace e5 : f__law_take W [.drw, .int 30] (n3 + 1) = some (.ok (.int v5), n3 + 1 + 1) := e5
  have sc : f_schedule [.int (1 + v4 + v5), .int (1 + v4)] (n3 + 1 + 1) = some (.ok (planD (1 + v4 + v5) (1 + v4)), n3 + 1 + 1) := schedule_ok (1 + v4 + v5) (1 + v4) (by omega) (by omega) (by omega) (n3 + 1 + 1)
  have b11 : LG1b11 W [.val .scr, .val .drw, .val KT, .val (.int i), .val (.int k), .val (.int S), .val (gD g), .val (.int s), .val (gD t), .val (.int x), .val (.int y), .val (gD m), jS o12, jS o13, jS o14, jS o15, jS o16, jS o17, jS o18] n3 = some (.ok (.nx [.val .scr, .val .drw, .val KT, .val (.int i), .val (.int k), .val (.int S), .val (gD g), .val (.int s), .val (gD t), .val (.int x), .val (.int y), .val (gD m), .val (.int (1 + v4)), jS o13, jS o14, jS o15, jS o16, jS o17, jS o18]), n3 + 1) := by
    unfold LG1b11
    simp_arith [e4]
  have b12 : LG1b12 W [.val .scr, .val .drw, .val KT, .val (.int i), .val (.int k), .val (.int S), .val (gD g), .val (.int s), .val (gD t), .val (.int x), .val (.int y), .val (gD m), .val (.int (1 + v4)), jS o13, jS o14, jS o15, jS o16, jS o17, jS o18] (n3 + 1) = some (.ok (.nx [.val .scr, .val .drw, .val KT, .val (.int i), .val (.int k), .val (.int S), .val (gD g), .val (.int s), .val (gD t), .val (.int x), .val (.int y), .val (gD m), .val (.int (1 + v4)), .val (.int (1 + v4 + v5)), jS o14, jS o15, jS o16, jS o17, jS o18]), n3 + 1 + 1) := by
    unfold LG1b12
    simp_arith [e5]
  have b13 : LG1b13 W [.val .scr, .val .drw, .val KT, .val (.int i), .val (.int k), .val (.int S), .val (gD g), .val (.int s), .val (gD t), .val (.int x), .val (.int y), .val (gD m), .val (.int (1 + v4)), .val (.int (1 + v4 + v5)), jS o14, jS o15, jS o16, jS o17, jS o18] (n3 + 1 + 1) = some (.ok (.nx [.val .scr, .val .drw, .val KT, .val (.int i), .val (.int k), .val (.int S), .val (gD g), .val (.int s), .val (gD t), .val (.int x), .val (.int y), .val (gD m), .val (.int (1 + v4)), .val (.int (1 + v4 + v5)), .val (planD (1 + v4 + v5) (1 + v4)), jS o15, jS o16, jS o17, jS o18]), n3 + 1 + 1) := by
    unfold LG1b13
    simp_arith [sc]
  have b14 : sSeq (LG1b14 W) (sSeq (LG1b15 W) (LG1b16 W)) [.val .scr, .val .drw, .val KT, .val (.int i), .val (.int k), .val (.int S), .val (gD g), .val (.int s), .val (gD t), .val (.int x), .val (.int y), .val (gD m), .val (.int (1 + v4)), .val (.int (1 + v4 + v5)), .val (planD (1 + v4 + v5) (1 + v4)), jS o15, jS o16, jS o17, jS o18] (n3 + 1 + 1) = some (.ok (.nx [.val .scr, .val .drw, .val KT, .val (.int i), .val (.int k), .val (.int S), .val (gD g), .val (.int s), .val (gD t), .val (.int x), .val (.int y), .val (gD m), .val (.int (1 + v4)), .val (.int (1 + v4 + v5)), .val (planD (1 + v4 + v5) (1 + v4)), jS o15, jS o16, jS o17, jS o18]), n3 + 1 + 1) := sched_law i (some (.int k)) (some (.int S)) (some (gD g)) (some (.int s)) (some (gD t)) (some (.int x)) (some (.int y)) (some (gD m)) o15 o16 o17 o18 (1 + v4 + v5) (1 + v4) (by omega) (by omega) (by omega) (n3 + 1 + 1)
  refine ⟨some (.int k), some (.int S), some (gD g), some (.int s), some (gD t), some (.int x), some (.int y), some (gD m), some (.int (1 + v4)), some (.int (1 + v4 + v5)), some (planD (1 + v4 + v5) (1 + v4)), o15, o16, o17, o18, _, sq b0 (sq b1 (sq b2 (sq b3 (sq b4 (sq b5 (sq b6 (sq b7 (sq b8 (sq b9 (sq b10 (sq b11 (sq b12 (sq b13 b14)))))))))))))⟩
end K57
end

section
set_option Elab.async false
set_option linter.all false
set_option autoImplicit false
set_option maxRecDepth 100000
set_option maxHeartbeats 400000
local macro_rules
  | `(tactic| simp_arith [$ts,*]) => `(tactic| simp (disch := first | omega | (simp only [List.length_cons, List.length_nil, List.length_map, List.length_range, List.length_append] <;> omega) | assumption) only [DL.bind_ap, DL.pure_ap, DL.opt_some, DL.opt_none, DL.bindR_ok, DL.bindR_none, DL.bindR_err, DL.bindR_assoc, DL.selB_true, DL.selB_false, DL.seqK_nx, DL.seqK_bk, DL.seqK_ct, DL.seqK_ret, DL.runK_ret, DL.runK_nx, DL.runIK_nx, DL.turnK_nx, DL.turnK_ct, DL.turnK_bk, DL.turnK_ret, DL.makeK_obj, DL.intK_int, DL.chainK_true, DL.chainK_false, DL.consO_some, DL.consO_none, DL.eVar_0, DL.eVar_s, DL.eC_ap, DL.eNil_ap, DL.eCons_ap, DL.eTup_ap, DL.eLst_ap, DL.e2_ap, DL.e1_ap, DL.eB_ap, DL.eCall_ap, DL.eMake_ap, DL.eMeth_ap, DL.eIf_ap, DL.eAnd_ap, DL.eOr_ap, DL.eNot_ap, DL.eCut_ap, DL.oNone_ap, DL.oSome_ap, DL.eChain_ap, DL.tB_ap, DL.tTru_ap, DL.tAndD_ap, DL.tOrD_ap, DL.tNotD_ap, DL.tYesD_ap, DL.dBool_bl, DL.dTru_bl, DL.isNon_non, DL.isNon_int, DL.isNon_tup, DL.sNx_ap, DL.sSeq_ap, DL.sRet_ap, DL.sExp_ap, DL.sAsg_ap, DL.sIf_ap, DL.sFor_ap, DL.sWhile_ap, DL.sAug_ap, DL.sUp_ap, DL.sPar_ap, DL.own_0, DL.own_s, DL.gV_ap, DL.gT_ap, DL.gsN_ap, DL.gsC_ap, DL.iOf_ap, DL.iRng1D_ap, DL.iRng2D_ap, DL.dItems_tup, DL.dItems_lst, DL.calmR_ok, DL.calm_ap, DL.eComp_ap, DL.ownLst_0, DL.ownLst_s, DL.sApp_ap, DL.compB_ap, DL.hide_nil, DL.hide_no, DL.hide_val, DL.hide_own, DL.hide_j, DL.wipeD_nil, DL.wipeD_cons, DL.runD_ap, DL.runI_ap, DL.forD_nil, DL.eOwn2_ap, DL.e2M_ap, DL.e1M_ap, DL.mOwn_ap, DL.mOwn1_ap, DL.optK_bl, DL.mOwnIn_ap, DL.tOwn_ap, DL.eNotT_ap, DL.eBoolO_ap, DL.iZipD_ap, DL.sOwnN_ap, DL.cutK_lst, DL.nCut_ap, DL.nLst_ap, DL.sFrz_ap, DL.eIxT_ap, DL.sPutT_ap, DL.sOwn2_ap, DL.sOwn_ap, DL.nComp_ap, DL.nAdd_ap, DL.eIdx_ap, DL.isLst_lst, DL.eOwnIx_ap, DL.sPutL_ap, DL.sExtM_ap, DL.sExt_ap, DL.sBk_ap, DL.eChain3_ap, DL.nLstOf_ap, DL.itemsLT_lst, DL.itemsLT_tup, DL.iEnumD_ap, DL.dEnum_lst, DL.dEnum_tup, DL.sPutL2_ap, DL.putE_ap, DL.two_tup, DL.dAdd_int, DL.dSub_int, DL.dNeg_int, DL.dLen_tup, DL.dLen_lst, DL.lt_t, DL.lt_f, DL.gt_t, DL.gt_f, DL.ge_t, DL.ge_f, DL.le_t, DL.le_f, DL.eq_t, DL.eq_f, DL.ne_t, DL.ne_f, DL.mulR, DL.mulL, DL.mulNR, DL.mulNL, DL.dMod_int, DL.dDiv_int, DL.tru_bl, DL.iL_len, DL.iL_items, DL.fst2, DL.snd2, DL.fst3, DL.snd3, DL.trd3, DL.all_nil, DL.mkTup_of, DL.mkLst_of, List.map_cons, List.map_nil, List.cons_append, List.nil_append, List.set_cons_zero, List.set_cons_succ, List.length_cons, List.length_nil, List.length_map, List.length_range, List.replicate_succ, List.replicate_zero, List.foldl_cons, List.foldl_nil, List.zip_cons_cons, List.zip_nil_right, Option.bind_some, Option.bind_none, Bool.not_true, Bool.not_false, Bool.and_true, Bool.true_and, Bool.and_false, Bool.false_and, Bool.or_true, Bool.true_or, Bool.or_false, Bool.false_or, if_true, if_false, $ts,*])
namespace K57
open DL PySem L2 P_k57_whole_spread PyProof.Rows
theorem ref1 (W : Wd) (s3 : Sl) (o4 o5 o6 o7 o8 o9 o10 o11 o12 o13 o14 o15 o16 o17 o18 : Option D) (n : Int) : ∃ q15, LG2 W (LJ s3 o4 o5 o6 o7 o8 o9 o10 o11 o12 o13 o14 o15 o16 o17 o18) n = some (.ok (.nx (LJ s3 o4 o5 o6 o7 o8 o9 o10 o11 o12 o13 o14 q15 o16 o17 o18)), n) := ⟨some (.tup [.int 5, .non]), by kernel_rfl⟩
theorem ref2 (W : Wd) (s3 : Sl) (o4 o5 o6 o7 o8 o9 o10 o11 o12 o13 o14 o15 o16 o17 o18 : Option D) (n : Int) : ∃ q15, LG3 W (LJ s3 o4 o5 o6 o7 o8 o9 o10 o11 o12 o13 o14 o15 o16 o17 o18) n = some (.ok (.nx (LJ s3 o4 o5 o6 o7 o8 o9 o10 o11 o12 o13 o14 q15 o16 o17 o18)), n) := ⟨some (.lst [.int 10001]), by kernel_rfl⟩
theorem good (W : Wd) : ∃ n', g_law W (.val .scr :: .val .drw :: List.replicate (N_law.length - 2) Sl.no) 0 = some (.ok (.ret (.bl true)), n') := by
  obtain ⟨p4, p5, p6, p7, p8, p9, p10, p11, p12, p13, p14, p15, p16, p17, p18, n1, t1⟩ := turn_ok W 0 none none none none none none none none none none none none none none none 0
  obtain ⟨u4, u5, u6, u7, u8, u9, u10, u11, u12, u13, u14, u15, u16, u17, u18, n2, t2⟩ := turn_ok W 1 p4 p5 p6 p7 p8 p9 p10 p11 p12 p13 p14 p15 p16 p17 p18 n1
  obtain ⟨q15, r1⟩ := ref1 W (.val (.int 1)) u4 u5 u6 u7 u8 u9 u10 u11 u12 u13 u14 u15 u16 u17 u18 n2
  obtain ⟨z15, r2⟩ := ref2 W (.val (.int 1)) u4 u5 u6 u7 u8 u9 u10 u11 u12 u13 u14 q15 u16 u17 u18 n2
  obtain ⟨n3, ls⟩ := law_shaped_ok W n2
  have ko := kinds_ok 0
  have g0 : LG0 W (.val .scr :: .val .drw :: List.replicate (N_law.length - 2) Sl.no) 0 = some (.ok (.nx (LJ .no none none none none none none none none none none none none none none none)), 0) := by
    show LG0 W [.val .scr, .val .drw, .no, .no, .no, .no, .no, .no, .no, .no, .no, .no, .no, .no, .no, .no, .no, .no, .no] 0 = some (.ok (.nx [.val .scr, .val .drw, .val KT, .no, .no, .no, .no, .no, .no, .no, .no, .no, .no, .no, .no, .no, .no, .no, .no]), 0)
    unfold LG0
    simp_arith [ko]
  have g1 : LG1 W (LJ .no none none none none none none none none none none none none none none none) 0 = some (.ok (.nx (LJ (.val (.int 1)) u4 u5 u6 u7 u8 u9 u10 u11 u12 u13 u14 u15 u16 u17 u18)), n2) := by
    have rg : dRng1 [.int 2] = some [.int 0, .int 1] := by kernel_rfl
    have a1 : gV 3 (.int 0) (LJ .no none none none none none none none none none none none none none none none) = some (LJ (.val (.int ((0 : Nat) : Int))) none none none none none none none none none none none none none none none) := rfl
    have a2 : gV 3 (.int 1) (LJ (.val (.int ((0 : Nat) : Int))) p4 p5 p6 p7 p8 p9 p10 p11 p12 p13 p14 p15 p16 p17 p18) = some (LJ (.val (.int ((1 : Nat) : Int))) p4 p5 p6 p7 p8 p9 p10 p11 p12 p13 p14 p15 p16 p17 p18) := rfl
    unfold LG1
    rw [sFor_ap, bind_ap]
    have i0 : iRng1D (eCons (eC (.int 2)) eNil) (LJ .no none none none none none none none none none none none none none none none) 0 = some (.ok [.int 0, .int 1], 0) := by simp_arith [rg]
    rw [i0, bindR_ok, forD_cons, bind_ap, a1, opt_some, bindR_ok, bind_ap, t1, bindR_ok, turnK_nx, forD_cons, bind_ap, a2, opt_some, bindR_ok, bind_ap, t2, bindR_ok, turnK_nx]
    rfl
  have g4 : LG4 W (LJ (.val (.int 1)) u4 u5 u6 u7 u8 u9 u10 u11 u12 u13 u14 z15 u16 u17 u18) n2 = some (.ok (.ret (.bl true)), n3) := by
    unfold LG4 LJ LE
    simp_arith [ls]
  refine ⟨n3, ?_⟩
  rw [LG_eq]
  exact sq g0 (sq g1 (sq r1 (sq r2 g4)))
end K57
end

section
set_option Elab.async false
set_option linter.all false
set_option autoImplicit false
set_option maxRecDepth 100000
set_option maxHeartbeats 4000000
/-! printed by gen.py -/
namespace P_k57_whole_spread
open PySem PySem.Spec L2 DL
open PyProof.Rows (envOfC)
theorem all_mk {l : PySem.W.OpenLaw} {w : World} {K : PySem.W.Frag} {h : Heap} {mg : Str → Option Value} {fa : Addr} (X : K.In h) (G : h.Ns mainGlobals mg) (hfa : mg "law" = some (.ref fa))
    {C0 : Addr}
    {C1 : Addr}
    {C2 : Addr}
    {C3 : Addr}
    {C4 : Addr}
    {C5 : Addr}
    {C6 : Addr}
    {t_MOST : Tok}
    {t_MOST_BASE : Tok}
    {t_MOST_CELLS : Tok}
    {t_MOST_CHANGE : Tok}
    {t_MOST_GROWTH : Tok}
    {t_MOST_MEASURE : Tok}
    {t_MOST_PARTS : Tok}
    {t_MOST_REST : Tok}
    {t_MOST_RISE : Tok}
    {t_MOST_ROWS : Tok}
    {t_MOST_TOTAL : Tok}
    {aT_KINDS : Addr}
    {a_Even___bool__ : Addr} {od_Even___bool__ an_Even___bool__ : Option Addr} {sl_Even___bool__ : Array (Option Value)} {oc_Even___bool__ kV_Even___bool__ dc_Even___bool__ pm_Even___bool__ cd_Even___bool__ ct_Even___bool__ : Value}
    {a_Even___init__ : Addr} {od_Even___init__ an_Even___init__ : Option Addr} {sl_Even___init__ : Array (Option Value)} {oc_Even___init__ kV_Even___init__ dc_Even___init__ pm_Even___init__ cd_Even___init__ ct_Even___init__ : Value}
    {a_is_number : Addr} {od_is_number an_is_number : Option Addr} {sl_is_number : Array (Option Value)} {oc_is_number kV_is_number dc_is_number pm_is_number cd_is_number ct_is_number : Value}
    {a_check_gaps : Addr} {od_check_gaps an_check_gaps : Option Addr} {sl_check_gaps : Array (Option Value)} {oc_check_gaps kV_check_gaps dc_check_gaps pm_check_gaps cd_check_gaps ct_check_gaps : Value}
    {a_spread_again : Addr} {od_spread_again an_spread_again : Option Addr} {sl_spread_again : Array (Option Value)} {oc_spread_again kV_spread_again dc_spread_again pm_spread_again cd_spread_again ct_spread_again : Value}
    {a_Even_shows : Addr} {od_Even_shows an_Even_shows : Option Addr} {sl_Even_shows : Array (Option Value)} {oc_Even_shows kV_Even_shows dc_Even_shows pm_Even_shows cd_Even_shows ct_Even_shows : Value}
    {a_Uneven___bool__ : Addr} {od_Uneven___bool__ an_Uneven___bool__ : Option Addr} {sl_Uneven___bool__ : Array (Option Value)} {oc_Uneven___bool__ kV_Uneven___bool__ dc_Uneven___bool__ pm_Uneven___bool__ cd_Uneven___bool__ ct_Uneven___bool__ : Value}
    {a_Uneven___init__ : Addr} {od_Uneven___init__ an_Uneven___init__ : Option Addr} {sl_Uneven___init__ : Array (Option Value)} {oc_Uneven___init__ kV_Uneven___init__ dc_Uneven___init__ pm_Uneven___init__ cd_Uneven___init__ ct_Uneven___init__ : Value}
    {a_sum_from : Addr} {od_sum_from an_sum_from : Option Addr} {sl_sum_from : Array (Option Value)} {oc_sum_from kV_sum_from dc_sum_from pm_sum_from cd_sum_from ct_sum_from : Value}
    {a_Uneven_shows : Addr} {od_Uneven_shows an_Uneven_shows : Option Addr} {sl_Uneven_shows : Array (Option Value)} {oc_Uneven_shows kV_Uneven_shows dc_Uneven_shows pm_Uneven_shows cd_Uneven_shows ct_Uneven_shows : Value}
    {a__law_even : Addr} {od__law_even an__law_even : Option Addr} {sl__law_even : Array (Option Value)} {oc__law_even kV__law_even dc__law_even pm__law_even cd__law_even ct__law_even : Value}
    {a__law_sum : Addr} {od__law_sum an__law_sum : Option Addr} {sl__law_sum : Array (Option Value)} {oc__law_sum kV__law_sum dc__law_sum pm__law_sum cd__law_sum ct__law_sum : Value}
    {a_judge_spread : Addr} {od_judge_spread an_judge_spread : Option Addr} {sl_judge_spread : Array (Option Value)} {oc_judge_spread kV_judge_spread dc_judge_spread pm_judge_spread cd_judge_spread ct_judge_spread : Value}
    {a_spread : Addr} {od_spread an_spread : Option Addr} {sl_spread : Array (Option Value)} {oc_spread kV_spread dc_spread pm_spread cd_spread ct_spread : Value}
    {a__law_judged : Addr} {od__law_judged an__law_judged : Option Addr} {sl__law_judged : Array (Option Value)} {oc__law_judged kV__law_judged dc__law_judged pm__law_judged cd__law_judged ct__law_judged : Value}
    {a__law_kinds : Addr} {od__law_kinds an__law_kinds : Option Addr} {sl__law_kinds : Array (Option Value)} {oc__law_kinds kV__law_kinds dc__law_kinds pm__law_kinds cd__law_kinds ct__law_kinds : Value}
    {a__law_all_rows : Addr} {od__law_all_rows an__law_all_rows : Option Addr} {sl__law_all_rows : Array (Option Value)} {oc__law_all_rows kV__law_all_rows dc__law_all_rows pm__law_all_rows cd__law_all_rows ct__law_all_rows : Value}
    {a__law_number : Addr} {od__law_number an__law_number : Option Addr} {sl__law_number : Array (Option Value)} {oc__law_number kV__law_number dc__law_number pm__law_number cd__law_number ct__law_number : Value}
    {a__law_take : Addr} {od__law_take an__law_take : Option Addr} {sl__law_take : Array (Option Value)} {oc__law_take kV__law_take dc__law_take pm__law_take cd__law_take ct__law_take : Value}
    {a__law_pick : Addr} {od__law_pick an__law_pick : Option Addr} {sl__law_pick : Array (Option Value)} {oc__law_pick kV__law_pick dc__law_pick pm__law_pick cd__law_pick ct__law_pick : Value}
    {a__law_cell : Addr} {od__law_cell an__law_cell : Option Addr} {sl__law_cell : Array (Option Value)} {oc__law_cell kV__law_cell dc__law_cell pm__law_cell cd__law_cell ct__law_cell : Value}
    {a__law_word : Addr} {od__law_word an__law_word : Option Addr} {sl__law_word : Array (Option Value)} {oc__law_word kV__law_word dc__law_word pm__law_word cd__law_word ct__law_word : Value}
    {a__law_easy_row : Addr} {od__law_easy_row an__law_easy_row : Option Addr} {sl__law_easy_row : Array (Option Value)} {oc__law_easy_row kV__law_easy_row dc__law_easy_row pm__law_easy_row cd__law_easy_row ct__law_easy_row : Value}
    {a__law_makes : Addr} {od__law_makes an__law_makes : Option Addr} {sl__law_makes : Array (Option Value)} {oc__law_makes kV__law_makes dc__law_makes pm__law_makes cd__law_makes ct__law_makes : Value}
    {a__law_takes : Addr} {od__law_takes an__law_takes : Option Addr} {sl__law_takes : Array (Option Value)} {oc__law_takes kV__law_takes dc__law_takes pm__law_takes cd__law_takes ct__law_takes : Value}
    {a_makes : Addr} {od_makes an_makes : Option Addr} {sl_makes : Array (Option Value)} {oc_makes kV_makes dc_makes pm_makes cd_makes ct_makes : Value}
    {a_rows_of : Addr} {od_rows_of an_rows_of : Option Addr} {sl_rows_of : Array (Option Value)} {oc_rows_of kV_rows_of dc_rows_of pm_rows_of cd_rows_of ct_rows_of : Value}
    {a_takes : Addr} {od_takes an_takes : Option Addr} {sl_takes : Array (Option Value)} {oc_takes kV_takes dc_takes pm_takes cd_takes ct_takes : Value}
    {a_growth_of : Addr} {od_growth_of an_growth_of : Option Addr} {sl_growth_of : Array (Option Value)} {oc_growth_of kV_growth_of dc_growth_of pm_growth_of cd_growth_of ct_growth_of : Value}
    {a_is_line : Addr} {od_is_line an_is_line : Option Addr} {sl_is_line : Array (Option Value)} {oc_is_line kV_is_line dc_is_line pm_is_line cd_is_line ct_is_line : Value}
    {a_is_even : Addr} {od_is_even an_is_even : Option Addr} {sl_is_even : Array (Option Value)} {oc_is_even kV_is_even dc_is_even pm_is_even cd_is_even ct_is_even : Value}
    {a_is_kind : Addr} {od_is_kind an_is_kind : Option Addr} {sl_is_kind : Array (Option Value)} {oc_is_kind kV_is_kind dc_is_kind pm_is_kind cd_is_kind ct_is_kind : Value}
    {a_is_yarn : Addr} {od_is_yarn an_is_yarn : Option Addr} {sl_is_yarn : Array (Option Value)} {oc_is_yarn kV_is_yarn dc_is_yarn pm_is_yarn cd_is_yarn ct_is_yarn : Value}
    {a_is_cell : Addr} {od_is_cell an_is_cell : Option Addr} {sl_is_cell : Array (Option Value)} {oc_is_cell kV_is_cell dc_is_cell pm_is_cell cd_is_cell ct_is_cell : Value}
    {a_is_word : Addr} {od_is_word an_is_word : Option Addr} {sl_is_word : Array (Option Value)} {oc_is_word kV_is_word dc_is_word pm_is_word cd_is_word ct_is_word : Value}
    {a_is_row : Addr} {od_is_row an_is_row : Option Addr} {sl_is_row : Array (Option Value)} {oc_is_row kV_is_row dc_is_row pm_is_row cd_is_row ct_is_row : Value}
    {a_change_of : Addr} {od_change_of an_change_of : Option Addr} {sl_change_of : Array (Option Value)} {oc_change_of kV_change_of dc_change_of pm_change_of cd_change_of ct_change_of : Value}
    {a_round_change : Addr} {od_round_change an_round_change : Option Addr} {sl_round_change : Array (Option Value)} {oc_round_change kV_round_change dc_round_change pm_round_change cd_round_change ct_round_change : Value}
    {a_is_part : Addr} {od_is_part an_is_part : Option Addr} {sl_is_part : Array (Option Value)} {oc_is_part kV_is_part dc_is_part pm_is_part cd_is_part ct_is_part : Value}
    {a_common : Addr} {od_common an_common : Option Addr} {sl_common : Array (Option Value)} {oc_common kV_common dc_common pm_common cd_common ct_common : Value}
    {a_measure_of : Addr} {od_measure_of an_measure_of : Option Addr} {sl_measure_of : Array (Option Value)} {oc_measure_of kV_measure_of dc_measure_of pm_measure_of cd_measure_of ct_measure_of : Value}
    {a_Piece___init__ : Addr} {od_Piece___init__ an_Piece___init__ : Option Addr} {sl_Piece___init__ : Array (Option Value)} {oc_Piece___init__ kV_Piece___init__ dc_Piece___init__ pm_Piece___init__ cd_Piece___init__ ct_Piece___init__ : Value}
    {a_plain_parts : Addr} {od_plain_parts an_plain_parts : Option Addr} {sl_plain_parts : Array (Option Value)} {oc_plain_parts kV_plain_parts dc_plain_parts pm_plain_parts cd_plain_parts ct_plain_parts : Value}
    {a_shaped : Addr} {od_shaped an_shaped : Option Addr} {sl_shaped : Array (Option Value)} {oc_shaped kV_shaped dc_shaped pm_shaped cd_shaped ct_shaped : Value}
    {a__law_shaped : Addr} {od__law_shaped an__law_shaped : Option Addr} {sl__law_shaped : Array (Option Value)} {oc__law_shaped kV__law_shaped dc__law_shaped pm__law_shaped cd__law_shaped ct__law_shaped : Value}
    {a_schedule : Addr} {od_schedule an_schedule : Option Addr} {sl_schedule : Array (Option Value)} {oc_schedule kV_schedule dc_schedule pm_schedule cd_schedule ct_schedule : Value}
    {a_law : Addr} {od_law an_law : Option Addr} {sl_law : Array (Option Value)} {oc_law kV_law dc_law pm_law cd_law ct_law : Value}
    (aC0 : PySem.W.nsIn K mainGlobals "StitchError" = some (some (.ref C0)))
    (aC1 : PySem.W.nsIn K mainGlobals "BadPiece" = some (some (.ref C1)))
    (aC2 : PySem.W.nsIn K mainGlobals "BadRow" = some (some (.ref C2)))
    (aC3 : PySem.W.nsIn K mainGlobals "BadGaps" = some (some (.ref C3)))
    (aC4 : PySem.W.nsIn K mainGlobals "Piece" = some (some (.ref C4)))
    (aC5 : PySem.W.nsIn K mainGlobals "Even" = some (some (.ref C5)))
    (aC6 : PySem.W.nsIn K mainGlobals "Uneven" = some (some (.ref C6)))
    (xb2 : PySem.W.excIn K C2 [.type "ValueError", .type "Exception", .type "BaseException", .type "object"] "ValueError.__new__" = true)
    (kc2 : PySem.W.keepIn K (.ref C2) = true)
    (sb2 : PySem.W.subIn K (.ref C2) (.type "BaseException") = some true)
    (ty2 : PySem.W.typeIn K (.ref C2) = some (.type "type"))
    (hd2 : PySem.W.hasDictIn K C2 = true)
    (xb3 : PySem.W.excIn K C3 [.type "ValueError", .type "Exception", .type "BaseException", .type "object"] "ValueError.__new__" = true)
    (kc3 : PySem.W.keepIn K (.ref C3) = true)
    (sb3 : PySem.W.subIn K (.ref C3) (.type "BaseException") = some true)
    (ty3 : PySem.W.typeIn K (.ref C3) = some (.type "type"))
    (hd3 : PySem.W.hasDictIn K C3 = true)
    (se2_3 : PySem.W.subIn K (.ref C2) (.ref C3) = some false)
    (se3_3 : PySem.W.subIn K (.ref C3) (.ref C3) = some true)
    (pg4 : PySem.W.plainGet K C4 Str.empty = true)
    (hd4 : PySem.W.hasDictIn K C4 = true)
    (po4 : PySem.W.plainOver K C4 = true)
    (sa4 : PySem.W.findIn K (.ref C4) "__setattr__" = some (some (.builtin "object.__setattr__")))
    (mk4 : PySem.W.makesIn K C4 = true)
    (kc4 : PySem.W.keepIn K (.ref C4) = true)
    (ia5 : PySem.W.findIn K (.ref C5) "__class__" = some (some (.builtin "object.__class__")))
    (in5 : PySem.W.specialIn K (.builtin "object.__class__") "__get__" = some (some (.builtin "getset_descriptor.__get__")))
    (it5 : PySem.W.takesIn K (.builtin "object.__class__") = some true)
    (im5 : PySem.W.mroIn K C5 (.type "object") = some true)
    (kt5 : PySem.W.typeIn K (.ref C5) = some (.type "type"))
    (ks5 : PySem.W.subIn K (.ref C5) (.ref C5) = some true)
    (kn6_5 : PySem.W.subIn K (.ref C6) (.ref C5) = some false)
    (pg5 : PySem.W.plainGet K C5 Str.empty = true)
    (hd5 : PySem.W.hasDictIn K C5 = true)
    (po5 : PySem.W.plainOver K C5 = true)
    (sa5 : PySem.W.findIn K (.ref C5) "__setattr__" = some (some (.builtin "object.__setattr__")))
    (mk5 : PySem.W.makesIn K C5 = true)
    (kc5 : PySem.W.keepIn K (.ref C5) = true)
    (ia6 : PySem.W.findIn K (.ref C6) "__class__" = some (some (.builtin "object.__class__")))
    (in6 : PySem.W.specialIn K (.builtin "object.__class__") "__get__" = some (some (.builtin "getset_descriptor.__get__")))
    (it6 : PySem.W.takesIn K (.builtin "object.__class__") = some true)
    (im6 : PySem.W.mroIn K C6 (.type "object") = some true)
    (pg6 : PySem.W.plainGet K C6 Str.empty = true)
    (hd6 : PySem.W.hasDictIn K C6 = true)
    (po6 : PySem.W.plainOver K C6 = true)
    (sa6 : PySem.W.findIn K (.ref C6) "__setattr__" = some (some (.builtin "object.__setattr__")))
    (mk6 : PySem.W.makesIn K C6 = true)
    (kc6 : PySem.W.keepIn K (.ref C6) = true)
    (n5_shift : PySem.W.findIn K (.ref C5) "shift" = some none)
    (n4_cast : PySem.W.findIn K (.ref C4) "cast" = some none)
    (n4_parts : PySem.W.findIn K (.ref C4) "parts" = some none)
    (n4_way : PySem.W.findIn K (.ref C4) "way" = some none)
    (n6_one : PySem.W.findIn K (.ref C6) "one" = some none)
    (n6_other : PySem.W.findIn K (.ref C6) "other" = some none)
    (n6_width : PySem.W.findIn K (.ref C6) "width" = some none)
    (b_abs : PySem.W.nsIn K mainGlobals "abs" = some none)
    (b_all : PySem.W.nsIn K mainGlobals "all" = some none)
    (b_any : PySem.W.nsIn K mainGlobals "any" = some none)
    (b_bool : PySem.W.nsIn K mainGlobals "bool" = some none)
    (b_enumerate : PySem.W.nsIn K mainGlobals "enumerate" = some none)
    (b_int : PySem.W.nsIn K mainGlobals "int" = some none)
    (b_isinstance : PySem.W.nsIn K mainGlobals "isinstance" = some none)
    (b_len : PySem.W.nsIn K mainGlobals "len" = some none)
    (b_list : PySem.W.nsIn K mainGlobals "list" = some none)
    (b_max : PySem.W.nsIn K mainGlobals "max" = some none)
    (b_min : PySem.W.nsIn K mainGlobals "min" = some none)
    (b_range : PySem.W.nsIn K mainGlobals "range" = some none)
    (b_set : PySem.W.nsIn K mainGlobals "set" = some none)
    (b_sorted : PySem.W.nsIn K mainGlobals "sorted" = some none)
    (b_str : PySem.W.nsIn K mainGlobals "str" = some none)
    (b_sum : PySem.W.nsIn K mainGlobals "sum" = some none)
    (b_tuple : PySem.W.nsIn K mainGlobals "tuple" = some none)
    (c_MOST : PySem.W.nsIn K mainGlobals "MOST" = some (some (.int 60 t_MOST)))
    (c_MOST_BASE : PySem.W.nsIn K mainGlobals "MOST_BASE" = some (some (.int 99 t_MOST_BASE)))
    (c_MOST_CELLS : PySem.W.nsIn K mainGlobals "MOST_CELLS" = some (some (.int 60 t_MOST_CELLS)))
    (c_MOST_CHANGE : PySem.W.nsIn K mainGlobals "MOST_CHANGE" = some (some (.int 12 t_MOST_CHANGE)))
    (c_MOST_GROWTH : PySem.W.nsIn K mainGlobals "MOST_GROWTH" = some (some (.int 12 t_MOST_GROWTH)))
    (c_MOST_MEASURE : PySem.W.nsIn K mainGlobals "MOST_MEASURE" = some (some (.int 120 t_MOST_MEASURE)))
    (c_MOST_PARTS : PySem.W.nsIn K mainGlobals "MOST_PARTS" = some (some (.int 40 t_MOST_PARTS)))
    (c_MOST_REST : PySem.W.nsIn K mainGlobals "MOST_REST" = some (some (.int 30 t_MOST_REST)))
    (c_MOST_RISE : PySem.W.nsIn K mainGlobals "MOST_RISE" = some (some (.int 9 t_MOST_RISE)))
    (c_MOST_ROWS : PySem.W.nsIn K mainGlobals "MOST_ROWS" = some (some (.int 20 t_MOST_ROWS)))
    (c_MOST_TOTAL : PySem.W.nsIn K mainGlobals "MOST_TOTAL" = some (some (.int 10000 t_MOST_TOTAL)))
    (kt_KINDS : PySem.W.nsIn K mainGlobals "KINDS" = some (some (.ref aT_KINDS)))
    (kd_KINDS : He.dicW K aT_KINDS = some (He.keysIn w.params (tb_KINDS.map (·.1)))) (kv_KINDS : tabDB K aT_KINDS tb_KINDS = true)
    (x_Even___bool__ : PySem.W.findIn K (.ref C5) "__bool__" = some (some (.ref a_Even___bool__))) (i_Even___bool__ : PySem.W.isFn K (.ref a_Even___bool__) = true)
    (l_Even___bool__ : K.lookup a_Even___bool__ = some ⟨oc_Even___bool__, od_Even___bool__, .func (PySem.W.fnOf "__bool__" "Even.__bool__" (defArgs s_Even___bool__) (defBody s_Even___bool__) (defScope s_Even___bool__) .none kV_Even___bool__ dc_Even___bool__ pm_Even___bool__ an_Even___bool__ cd_Even___bool__ ct_Even___bool__), sl_Even___bool__⟩)
    (d_Even___bool__ : PySem.W.codeIn K cd_Even___bool__ "Even.__bool__" = true) (k_Even___bool__ : PySem.W.keepIn K (.ref a_Even___bool__) = true)
    (x_Even___init__ : PySem.W.findIn K (.ref C5) "__init__" = some (some (.ref a_Even___init__))) (i_Even___init__ : PySem.W.isFn K (.ref a_Even___init__) = true)
    (l_Even___init__ : K.lookup a_Even___init__ = some ⟨oc_Even___init__, od_Even___init__, .func (PySem.W.fnOf "__init__" "Even.__init__" (defArgs s_Even___init__) (defBody s_Even___init__) (defScope s_Even___init__) .none kV_Even___init__ dc_Even___init__ pm_Even___init__ an_Even___init__ cd_Even___init__ ct_Even___init__), sl_Even___init__⟩)
    (d_Even___init__ : PySem.W.codeIn K cd_Even___init__ "Even.__init__" = true) (k_Even___init__ : PySem.W.keepIn K (.ref a_Even___init__) = true)
    (x_is_number : PySem.W.nsIn K mainGlobals "is_number" = some (some (.ref a_is_number)))
    (l_is_number : K.lookup a_is_number = some ⟨oc_is_number, od_is_number, .func (PySem.W.fnOf "is_number" "is_number" (defArgs s_is_number) (defBody s_is_number) (defScope s_is_number) .none kV_is_number dc_is_number pm_is_number an_is_number cd_is_number ct_is_number), sl_is_number⟩)
    (d_is_number : PySem.W.codeIn K cd_is_number "is_number" = true) (k_is_number : PySem.W.keepIn K (.ref a_is_number) = true)
    (x_check_gaps : PySem.W.nsIn K mainGlobals "check_gaps" = some (some (.ref a_check_gaps)))
    (l_check_gaps : K.lookup a_check_gaps = some ⟨oc_check_gaps, od_check_gaps, .func (PySem.W.fnOf "check_gaps" "check_gaps" (defArgs s_check_gaps) (defBody s_check_gaps) (defScope s_check_gaps) .none kV_check_gaps dc_check_gaps pm_check_gaps an_check_gaps cd_check_gaps ct_check_gaps), sl_check_gaps⟩)
    (d_check_gaps : PySem.W.codeIn K cd_check_gaps "check_gaps" = true) (k_check_gaps : PySem.W.keepIn K (.ref a_check_gaps) = true)
    (x_spread_again : PySem.W.nsIn K mainGlobals "spread_again" = some (some (.ref a_spread_again)))
    (l_spread_again : K.lookup a_spread_again = some ⟨oc_spread_again, od_spread_again, .func (PySem.W.fnOf "spread_again" "spread_again" (defArgs s_spread_again) (defBody s_spread_again) (defScope s_spread_again) .none kV_spread_again dc_spread_again pm_spread_again an_spread_again cd_spread_again ct_spread_again), sl_spread_again⟩)
    (d_spread_again : PySem.W.codeIn K cd_spread_again "spread_again" = true) (k_spread_again : PySem.W.keepIn K (.ref a_spread_again) = true)
    (x_Even_shows : PySem.W.findIn K (.ref C5) "shows" = some (some (.ref a_Even_shows))) (i_Even_shows : PySem.W.isFn K (.ref a_Even_shows) = true)
    (l_Even_shows : K.lookup a_Even_shows = some ⟨oc_Even_shows, od_Even_shows, .func (PySem.W.fnOf "shows" "Even.shows" (defArgs s_Even_shows) (defBody s_Even_shows) (defScope s_Even_shows) .none kV_Even_shows dc_Even_shows pm_Even_shows an_Even_shows cd_Even_shows ct_Even_shows), sl_Even_shows⟩)
    (d_Even_shows : PySem.W.codeIn K cd_Even_shows "Even.shows" = true) (k_Even_shows : PySem.W.keepIn K (.ref a_Even_shows) = true)
    (x_Uneven___bool__ : PySem.W.findIn K (.ref C6) "__bool__" = some (some (.ref a_Uneven___bool__))) (i_Uneven___bool__ : PySem.W.isFn K (.ref a_Uneven___bool__) = true)
    (l_Uneven___bool__ : K.lookup a_Uneven___bool__ = some ⟨oc_Uneven___bool__, od_Uneven___bool__, .func (PySem.W.fnOf "__bool__" "Uneven.__bool__" (defArgs s_Uneven___bool__) (defBody s_Uneven___bool__) (defScope s_Uneven___bool__) .none kV_Uneven___bool__ dc_Uneven___bool__ pm_Uneven___bool__ an_Uneven___bool__ cd_Uneven___bool__ ct_Uneven___bool__), sl_Uneven___bool__⟩)
    (d_Uneven___bool__ : PySem.W.codeIn K cd_Uneven___bool__ "Uneven.__bool__" = true) (k_Uneven___bool__ : PySem.W.keepIn K (.ref a_Uneven___bool__) = true)
    (x_Uneven___init__ : PySem.W.findIn K (.ref C6) "__init__" = some (some (.ref a_Uneven___init__))) (i_Uneven___init__ : PySem.W.isFn K (.ref a_Uneven___init__) = true)
    (l_Uneven___init__ : K.lookup a_Uneven___init__ = some ⟨oc_Uneven___init__, od_Uneven___init__, .func (PySem.W.fnOf "__init__" "Uneven.__init__" (defArgs s_Uneven___init__) (defBody s_Uneven___init__) (defScope s_Uneven___init__) .none kV_Uneven___init__ dc_Uneven___init__ pm_Uneven___init__ an_Uneven___init__ cd_Uneven___init__ ct_Uneven___init__), sl_Uneven___init__⟩)
    (d_Uneven___init__ : PySem.W.codeIn K cd_Uneven___init__ "Uneven.__init__" = true) (k_Uneven___init__ : PySem.W.keepIn K (.ref a_Uneven___init__) = true)
    (x_sum_from : PySem.W.nsIn K mainGlobals "sum_from" = some (some (.ref a_sum_from)))
    (l_sum_from : K.lookup a_sum_from = some ⟨oc_sum_from, od_sum_from, .func (PySem.W.fnOf "sum_from" "sum_from" (defArgs s_sum_from) (defBody s_sum_from) (defScope s_sum_from) .none kV_sum_from dc_sum_from pm_sum_from an_sum_from cd_sum_from ct_sum_from), sl_sum_from⟩)
    (d_sum_from : PySem.W.codeIn K cd_sum_from "sum_from" = true) (k_sum_from : PySem.W.keepIn K (.ref a_sum_from) = true)
    (x_Uneven_shows : PySem.W.findIn K (.ref C6) "shows" = some (some (.ref a_Uneven_shows))) (i_Uneven_shows : PySem.W.isFn K (.ref a_Uneven_shows) = true)
    (l_Uneven_shows : K.lookup a_Uneven_shows = some ⟨oc_Uneven_shows, od_Uneven_shows, .func (PySem.W.fnOf "shows" "Uneven.shows" (defArgs s_Uneven_shows) (defBody s_Uneven_shows) (defScope s_Uneven_shows) .none kV_Uneven_shows dc_Uneven_shows pm_Uneven_shows an_Uneven_shows cd_Uneven_shows ct_Uneven_shows), sl_Uneven_shows⟩)
    (d_Uneven_shows : PySem.W.codeIn K cd_Uneven_shows "Uneven.shows" = true) (k_Uneven_shows : PySem.W.keepIn K (.ref a_Uneven_shows) = true)
    (x__law_even : PySem.W.nsIn K mainGlobals "_law_even" = some (some (.ref a__law_even)))
    (l__law_even : K.lookup a__law_even = some ⟨oc__law_even, od__law_even, .func (PySem.W.fnOf "_law_even" "_law_even" (defArgs s__law_even) (defBody s__law_even) (defScope s__law_even) .none kV__law_even dc__law_even pm__law_even an__law_even cd__law_even ct__law_even), sl__law_even⟩)
    (d__law_even : PySem.W.codeIn K cd__law_even "_law_even" = true) (k__law_even : PySem.W.keepIn K (.ref a__law_even) = true)
    (x__law_sum : PySem.W.nsIn K mainGlobals "_law_sum" = some (some (.ref a__law_sum)))
    (l__law_sum : K.lookup a__law_sum = some ⟨oc__law_sum, od__law_sum, .func (PySem.W.fnOf "_law_sum" "_law_sum" (defArgs s__law_sum) (defBody s__law_sum) (defScope s__law_sum) .none kV__law_sum dc__law_sum pm__law_sum an__law_sum cd__law_sum ct__law_sum), sl__law_sum⟩)
    (d__law_sum : PySem.W.codeIn K cd__law_sum "_law_sum" = true) (k__law_sum : PySem.W.keepIn K (.ref a__law_sum) = true)
    (x_judge_spread : PySem.W.nsIn K mainGlobals "judge_spread" = some (some (.ref a_judge_spread)))
    (l_judge_spread : K.lookup a_judge_spread = some ⟨oc_judge_spread, od_judge_spread, .func (PySem.W.fnOf "judge_spread" "judge_spread" (defArgs s_judge_spread) (defBody s_judge_spread) (defScope s_judge_spread) .none kV_judge_spread dc_judge_spread pm_judge_spread an_judge_spread cd_judge_spread ct_judge_spread), sl_judge_spread⟩)
    (d_judge_spread : PySem.W.codeIn K cd_judge_spread "judge_spread" = true) (k_judge_spread : PySem.W.keepIn K (.ref a_judge_spread) = true)
    (x_spread : PySem.W.nsIn K mainGlobals "spread" = some (some (.ref a_spread)))
    (l_spread : K.lookup a_spread = some ⟨oc_spread, od_spread, .func (PySem.W.fnOf "spread" "spread" (defArgs s_spread) (defBody s_spread) (defScope s_spread) .none kV_spread dc_spread pm_spread an_spread cd_spread ct_spread), sl_spread⟩)
    (d_spread : PySem.W.codeIn K cd_spread "spread" = true) (k_spread : PySem.W.keepIn K (.ref a_spread) = true)
    (x__law_judged : PySem.W.nsIn K mainGlobals "_law_judged" = some (some (.ref a__law_judged)))
    (l__law_judged : K.lookup a__law_judged = some ⟨oc__law_judged, od__law_judged, .func (PySem.W.fnOf "_law_judged" "_law_judged" (defArgs s__law_judged) (defBody s__law_judged) (defScope s__law_judged) .none kV__law_judged dc__law_judged pm__law_judged an__law_judged cd__law_judged ct__law_judged), sl__law_judged⟩)
    (d__law_judged : PySem.W.codeIn K cd__law_judged "_law_judged" = true) (k__law_judged : PySem.W.keepIn K (.ref a__law_judged) = true)
    (x__law_kinds : PySem.W.nsIn K mainGlobals "_law_kinds" = some (some (.ref a__law_kinds)))
    (l__law_kinds : K.lookup a__law_kinds = some ⟨oc__law_kinds, od__law_kinds, .func (PySem.W.fnOf "_law_kinds" "_law_kinds" (defArgs s__law_kinds) (defBody s__law_kinds) (defScope s__law_kinds) .none kV__law_kinds dc__law_kinds pm__law_kinds an__law_kinds cd__law_kinds ct__law_kinds), sl__law_kinds⟩)
    (d__law_kinds : PySem.W.codeIn K cd__law_kinds "_law_kinds" = true) (k__law_kinds : PySem.W.keepIn K (.ref a__law_kinds) = true)
    (x__law_all_rows : PySem.W.nsIn K mainGlobals "_law_all_rows" = some (some (.ref a__law_all_rows)))
    (l__law_all_rows : K.lookup a__law_all_rows = some ⟨oc__law_all_rows, od__law_all_rows, .func (PySem.W.fnOf "_law_all_rows" "_law_all_rows" (defArgs s__law_all_rows) (defBody s__law_all_rows) (defScope s__law_all_rows) .none kV__law_all_rows dc__law_all_rows pm__law_all_rows an__law_all_rows cd__law_all_rows ct__law_all_rows), sl__law_all_rows⟩)
    (d__law_all_rows : PySem.W.codeIn K cd__law_all_rows "_law_all_rows" = true) (k__law_all_rows : PySem.W.keepIn K (.ref a__law_all_rows) = true)
    (x__law_number : PySem.W.nsIn K mainGlobals "_law_number" = some (some (.ref a__law_number)))
    (l__law_number : K.lookup a__law_number = some ⟨oc__law_number, od__law_number, .func (PySem.W.fnOf "_law_number" "_law_number" (defArgs s__law_number) (defBody s__law_number) (defScope s__law_number) .none kV__law_number dc__law_number pm__law_number an__law_number cd__law_number ct__law_number), sl__law_number⟩)
    (d__law_number : PySem.W.codeIn K cd__law_number "_law_number" = true) (k__law_number : PySem.W.keepIn K (.ref a__law_number) = true)
    (x__law_take : PySem.W.nsIn K mainGlobals "_law_take" = some (some (.ref a__law_take)))
    (l__law_take : K.lookup a__law_take = some ⟨oc__law_take, od__law_take, .func (PySem.W.fnOf "_law_take" "_law_take" (defArgs s__law_take) (defBody s__law_take) (defScope s__law_take) .none kV__law_take dc__law_take pm__law_take an__law_take cd__law_take ct__law_take), sl__law_take⟩)
    (d__law_take : PySem.W.codeIn K cd__law_take "_law_take" = true) (k__law_take : PySem.W.keepIn K (.ref a__law_take) = true)
    (x__law_pick : PySem.W.nsIn K mainGlobals "_law_pick" = some (some (.ref a__law_pick)))
    (l__law_pick : K.lookup a__law_pick = some ⟨oc__law_pick, od__law_pick, .func (PySem.W.fnOf "_law_pick" "_law_pick" (defArgs s__law_pick) (defBody s__law_pick) (defScope s__law_pick) .none kV__law_pick dc__law_pick pm__law_pick an__law_pick cd__law_pick ct__law_pick), sl__law_pick⟩)
    (d__law_pick : PySem.W.codeIn K cd__law_pick "_law_pick" = true) (k__law_pick : PySem.W.keepIn K (.ref a__law_pick) = true)
    (x__law_cell : PySem.W.nsIn K mainGlobals "_law_cell" = some (some (.ref a__law_cell)))
    (l__law_cell : K.lookup a__law_cell = some ⟨oc__law_cell, od__law_cell, .func (PySem.W.fnOf "_law_cell" "_law_cell" (defArgs s__law_cell) (defBody s__law_cell) (defScope s__law_cell) .none kV__law_cell dc__law_cell pm__law_cell an__law_cell cd__law_cell ct__law_cell), sl__law_cell⟩)
    (d__law_cell : PySem.W.codeIn K cd__law_cell "_law_cell" = true) (k__law_cell : PySem.W.keepIn K (.ref a__law_cell) = true)
    (x__law_word : PySem.W.nsIn K mainGlobals "_law_word" = some (some (.ref a__law_word)))
    (l__law_word : K.lookup a__law_word = some ⟨oc__law_word, od__law_word, .func (PySem.W.fnOf "_law_word" "_law_word" (defArgs s__law_word) (defBody s__law_word) (defScope s__law_word) .none kV__law_word dc__law_word pm__law_word an__law_word cd__law_word ct__law_word), sl__law_word⟩)
    (d__law_word : PySem.W.codeIn K cd__law_word "_law_word" = true) (k__law_word : PySem.W.keepIn K (.ref a__law_word) = true)
    (x__law_easy_row : PySem.W.nsIn K mainGlobals "_law_easy_row" = some (some (.ref a__law_easy_row)))
    (l__law_easy_row : K.lookup a__law_easy_row = some ⟨oc__law_easy_row, od__law_easy_row, .func (PySem.W.fnOf "_law_easy_row" "_law_easy_row" (defArgs s__law_easy_row) (defBody s__law_easy_row) (defScope s__law_easy_row) .none kV__law_easy_row dc__law_easy_row pm__law_easy_row an__law_easy_row cd__law_easy_row ct__law_easy_row), sl__law_easy_row⟩)
    (d__law_easy_row : PySem.W.codeIn K cd__law_easy_row "_law_easy_row" = true) (k__law_easy_row : PySem.W.keepIn K (.ref a__law_easy_row) = true)
    (x__law_makes : PySem.W.nsIn K mainGlobals "_law_makes" = some (some (.ref a__law_makes)))
    (l__law_makes : K.lookup a__law_makes = some ⟨oc__law_makes, od__law_makes, .func (PySem.W.fnOf "_law_makes" "_law_makes" (defArgs s__law_makes) (defBody s__law_makes) (defScope s__law_makes) .none kV__law_makes dc__law_makes pm__law_makes an__law_makes cd__law_makes ct__law_makes), sl__law_makes⟩)
    (d__law_makes : PySem.W.codeIn K cd__law_makes "_law_makes" = true) (k__law_makes : PySem.W.keepIn K (.ref a__law_makes) = true)
    (x__law_takes : PySem.W.nsIn K mainGlobals "_law_takes" = some (some (.ref a__law_takes)))
    (l__law_takes : K.lookup a__law_takes = some ⟨oc__law_takes, od__law_takes, .func (PySem.W.fnOf "_law_takes" "_law_takes" (defArgs s__law_takes) (defBody s__law_takes) (defScope s__law_takes) .none kV__law_takes dc__law_takes pm__law_takes an__law_takes cd__law_takes ct__law_takes), sl__law_takes⟩)
    (d__law_takes : PySem.W.codeIn K cd__law_takes "_law_takes" = true) (k__law_takes : PySem.W.keepIn K (.ref a__law_takes) = true)
    (x_makes : PySem.W.nsIn K mainGlobals "makes" = some (some (.ref a_makes)))
    (l_makes : K.lookup a_makes = some ⟨oc_makes, od_makes, .func (PySem.W.fnOf "makes" "makes" (defArgs s_makes) (defBody s_makes) (defScope s_makes) .none kV_makes dc_makes pm_makes an_makes cd_makes ct_makes), sl_makes⟩)
    (d_makes : PySem.W.codeIn K cd_makes "makes" = true) (k_makes : PySem.W.keepIn K (.ref a_makes) = true)
    (x_rows_of : PySem.W.nsIn K mainGlobals "rows_of" = some (some (.ref a_rows_of)))
    (l_rows_of : K.lookup a_rows_of = some ⟨oc_rows_of, od_rows_of, .func (PySem.W.fnOf "rows_of" "rows_of" (defArgs s_rows_of) (defBody s_rows_of) (defScope s_rows_of) .none kV_rows_of dc_rows_of pm_rows_of an_rows_of cd_rows_of ct_rows_of), sl_rows_of⟩)
    (d_rows_of : PySem.W.codeIn K cd_rows_of "rows_of" = true) (k_rows_of : PySem.W.keepIn K (.ref a_rows_of) = true)
    (x_takes : PySem.W.nsIn K mainGlobals "takes" = some (some (.ref a_takes)))
    (l_takes : K.lookup a_takes = some ⟨oc_takes, od_takes, .func (PySem.W.fnOf "takes" "takes" (defArgs s_takes) (defBody s_takes) (defScope s_takes) .none kV_takes dc_takes pm_takes an_takes cd_takes ct_takes), sl_takes⟩)
    (d_takes : PySem.W.codeIn K cd_takes "takes" = true) (k_takes : PySem.W.keepIn K (.ref a_takes) = true)
    (x_growth_of : PySem.W.nsIn K mainGlobals "growth_of" = some (some (.ref a_growth_of)))
    (l_growth_of : K.lookup a_growth_of = some ⟨oc_growth_of, od_growth_of, .func (PySem.W.fnOf "growth_of" "growth_of" (defArgs s_growth_of) (defBody s_growth_of) (defScope s_growth_of) .none kV_growth_of dc_growth_of pm_growth_of an_growth_of cd_growth_of ct_growth_of), sl_growth_of⟩)
    (d_growth_of : PySem.W.codeIn K cd_growth_of "growth_of" = true) (k_growth_of : PySem.W.keepIn K (.ref a_growth_of) = true)
    (x_is_line : PySem.W.nsIn K mainGlobals "is_line" = some (some (.ref a_is_line)))
    (l_is_line : K.lookup a_is_line = some ⟨oc_is_line, od_is_line, .func (PySem.W.fnOf "is_line" "is_line" (defArgs s_is_line) (defBody s_is_line) (defScope s_is_line) .none kV_is_line dc_is_line pm_is_line an_is_line cd_is_line ct_is_line), sl_is_line⟩)
    (d_is_line : PySem.W.codeIn K cd_is_line "is_line" = true) (k_is_line : PySem.W.keepIn K (.ref a_is_line) = true)
    (x_is_even : PySem.W.nsIn K mainGlobals "is_even" = some (some (.ref a_is_even)))
    (l_is_even : K.lookup a_is_even = some ⟨oc_is_even, od_is_even, .func (PySem.W.fnOf "is_even" "is_even" (defArgs s_is_even) (defBody s_is_even) (defScope s_is_even) .none kV_is_even dc_is_even pm_is_even an_is_even cd_is_even ct_is_even), sl_is_even⟩)
    (d_is_even : PySem.W.codeIn K cd_is_even "is_even" = true) (k_is_even : PySem.W.keepIn K (.ref a_is_even) = true)
    (x_is_kind : PySem.W.nsIn K mainGlobals "is_kind" = some (some (.ref a_is_kind)))
    (l_is_kind : K.lookup a_is_kind = some ⟨oc_is_kind, od_is_kind, .func (PySem.W.fnOf "is_kind" "is_kind" (defArgs s_is_kind) (defBody s_is_kind) (defScope s_is_kind) .none kV_is_kind dc_is_kind pm_is_kind an_is_kind cd_is_kind ct_is_kind), sl_is_kind⟩)
    (d_is_kind : PySem.W.codeIn K cd_is_kind "is_kind" = true) (k_is_kind : PySem.W.keepIn K (.ref a_is_kind) = true)
    (x_is_yarn : PySem.W.nsIn K mainGlobals "is_yarn" = some (some (.ref a_is_yarn)))
    (l_is_yarn : K.lookup a_is_yarn = some ⟨oc_is_yarn, od_is_yarn, .func (PySem.W.fnOf "is_yarn" "is_yarn" (defArgs s_is_yarn) (defBody s_is_yarn) (defScope s_is_yarn) .none kV_is_yarn dc_is_yarn pm_is_yarn an_is_yarn cd_is_yarn ct_is_yarn), sl_is_yarn⟩)
    (d_is_yarn : PySem.W.codeIn K cd_is_yarn "is_yarn" = true) (k_is_yarn : PySem.W.keepIn K (.ref a_is_yarn) = true)
    (x_is_cell : PySem.W.nsIn K mainGlobals "is_cell" = some (some (.ref a_is_cell)))
    (l_is_cell : K.lookup a_is_cell = some ⟨oc_is_cell, od_is_cell, .func (PySem.W.fnOf "is_cell" "is_cell" (defArgs s_is_cell) (defBody s_is_cell) (defScope s_is_cell) .none kV_is_cell dc_is_cell pm_is_cell an_is_cell cd_is_cell ct_is_cell), sl_is_cell⟩)
    (d_is_cell : PySem.W.codeIn K cd_is_cell "is_cell" = true) (k_is_cell : PySem.W.keepIn K (.ref a_is_cell) = true)
    (x_is_word : PySem.W.nsIn K mainGlobals "is_word" = some (some (.ref a_is_word)))
    (l_is_word : K.lookup a_is_word = some ⟨oc_is_word, od_is_word, .func (PySem.W.fnOf "is_word" "is_word" (defArgs s_is_word) (defBody s_is_word) (defScope s_is_word) .none kV_is_word dc_is_word pm_is_word an_is_word cd_is_word ct_is_word), sl_is_word⟩)
    (d_is_word : PySem.W.codeIn K cd_is_word "is_word" = true) (k_is_word : PySem.W.keepIn K (.ref a_is_word) = true)
    (x_is_row : PySem.W.nsIn K mainGlobals "is_row" = some (some (.ref a_is_row)))
    (l_is_row : K.lookup a_is_row = some ⟨oc_is_row, od_is_row, .func (PySem.W.fnOf "is_row" "is_row" (defArgs s_is_row) (defBody s_is_row) (defScope s_is_row) .none kV_is_row dc_is_row pm_is_row an_is_row cd_is_row ct_is_row), sl_is_row⟩)
    (d_is_row : PySem.W.codeIn K cd_is_row "is_row" = true) (k_is_row : PySem.W.keepIn K (.ref a_is_row) = true)
    (x_change_of : PySem.W.nsIn K mainGlobals "change_of" = some (some (.ref a_change_of)))
    (l_change_of : K.lookup a_change_of = some ⟨oc_change_of, od_change_of, .func (PySem.W.fnOf "change_of" "change_of" (defArgs s_change_of) (defBody s_change_of) (defScope s_change_of) .none kV_change_of dc_change_of pm_change_of an_change_of cd_change_of ct_change_of), sl_change_of⟩)
    (d_change_of : PySem.W.codeIn K cd_change_of "change_of" = true) (k_change_of : PySem.W.keepIn K (.ref a_change_of) = true)
    (x_round_change : PySem.W.nsIn K mainGlobals "round_change" = some (some (.ref a_round_change)))
    (l_round_change : K.lookup a_round_change = some ⟨oc_round_change, od_round_change, .func (PySem.W.fnOf "round_change" "round_change" (defArgs s_round_change) (defBody s_round_change) (defScope s_round_change) .none kV_round_change dc_round_change pm_round_change an_round_change cd_round_change ct_round_change), sl_round_change⟩)
    (d_round_change : PySem.W.codeIn K cd_round_change "round_change" = true) (k_round_change : PySem.W.keepIn K (.ref a_round_change) = true)
    (x_is_part : PySem.W.nsIn K mainGlobals "is_part" = some (some (.ref a_is_part)))
    (l_is_part : K.lookup a_is_part = some ⟨oc_is_part, od_is_part, .func (PySem.W.fnOf "is_part" "is_part" (defArgs s_is_part) (defBody s_is_part) (defScope s_is_part) .none kV_is_part dc_is_part pm_is_part an_is_part cd_is_part ct_is_part), sl_is_part⟩)
    (d_is_part : PySem.W.codeIn K cd_is_part "is_part" = true) (k_is_part : PySem.W.keepIn K (.ref a_is_part) = true)
    (x_common : PySem.W.nsIn K mainGlobals "common" = some (some (.ref a_common)))
    (l_common : K.lookup a_common = some ⟨oc_common, od_common, .func (PySem.W.fnOf "common" "common" (defArgs s_common) (defBody s_common) (defScope s_common) .none kV_common dc_common pm_common an_common cd_common ct_common), sl_common⟩)
    (d_common : PySem.W.codeIn K cd_common "common" = true) (k_common : PySem.W.keepIn K (.ref a_common) = true)
    (x_measure_of : PySem.W.nsIn K mainGlobals "measure_of" = some (some (.ref a_measure_of)))
    (l_measure_of : K.lookup a_measure_of = some ⟨oc_measure_of, od_measure_of, .func (PySem.W.fnOf "measure_of" "measure_of" (defArgs s_measure_of) (defBody s_measure_of) (defScope s_measure_of) .none kV_measure_of dc_measure_of pm_measure_of an_measure_of cd_measure_of ct_measure_of), sl_measure_of⟩)
    (d_measure_of : PySem.W.codeIn K cd_measure_of "measure_of" = true) (k_measure_of : PySem.W.keepIn K (.ref a_measure_of) = true)
    (x_Piece___init__ : PySem.W.findIn K (.ref C4) "__init__" = some (some (.ref a_Piece___init__))) (i_Piece___init__ : PySem.W.isFn K (.ref a_Piece___init__) = true)
    (l_Piece___init__ : K.lookup a_Piece___init__ = some ⟨oc_Piece___init__, od_Piece___init__, .func (PySem.W.fnOf "__init__" "Piece.__init__" (defArgs s_Piece___init__) (defBody s_Piece___init__) (defScope s_Piece___init__) .none kV_Piece___init__ dc_Piece___init__ pm_Piece___init__ an_Piece___init__ cd_Piece___init__ ct_Piece___init__), sl_Piece___init__⟩)
    (d_Piece___init__ : PySem.W.codeIn K cd_Piece___init__ "Piece.__init__" = true) (k_Piece___init__ : PySem.W.keepIn K (.ref a_Piece___init__) = true)
    (x_plain_parts : PySem.W.nsIn K mainGlobals "plain_parts" = some (some (.ref a_plain_parts)))
    (l_plain_parts : K.lookup a_plain_parts = some ⟨oc_plain_parts, od_plain_parts, .func (PySem.W.fnOf "plain_parts" "plain_parts" (defArgs s_plain_parts) (defBody s_plain_parts) (defScope s_plain_parts) .none kV_plain_parts dc_plain_parts pm_plain_parts an_plain_parts cd_plain_parts ct_plain_parts), sl_plain_parts⟩)
    (d_plain_parts : PySem.W.codeIn K cd_plain_parts "plain_parts" = true) (k_plain_parts : PySem.W.keepIn K (.ref a_plain_parts) = true)
    (x_shaped : PySem.W.nsIn K mainGlobals "shaped" = some (some (.ref a_shaped)))
    (l_shaped : K.lookup a_shaped = some ⟨oc_shaped, od_shaped, .func (PySem.W.fnOf "shaped" "shaped" (defArgs s_shaped) (defBody s_shaped) (defScope s_shaped) .none kV_shaped dc_shaped pm_shaped an_shaped cd_shaped ct_shaped), sl_shaped⟩)
    (d_shaped : PySem.W.codeIn K cd_shaped "shaped" = true) (k_shaped : PySem.W.keepIn K (.ref a_shaped) = true)
    (x__law_shaped : PySem.W.nsIn K mainGlobals "_law_shaped" = some (some (.ref a__law_shaped)))
    (l__law_shaped : K.lookup a__law_shaped = some ⟨oc__law_shaped, od__law_shaped, .func (PySem.W.fnOf "_law_shaped" "_law_shaped" (defArgs s__law_shaped) (defBody s__law_shaped) (defScope s__law_shaped) .none kV__law_shaped dc__law_shaped pm__law_shaped an__law_shaped cd__law_shaped ct__law_shaped), sl__law_shaped⟩)
    (d__law_shaped : PySem.W.codeIn K cd__law_shaped "_law_shaped" = true) (k__law_shaped : PySem.W.keepIn K (.ref a__law_shaped) = true)
    (x_schedule : PySem.W.nsIn K mainGlobals "schedule" = some (some (.ref a_schedule)))
    (l_schedule : K.lookup a_schedule = some ⟨oc_schedule, od_schedule, .func (PySem.W.fnOf "schedule" "schedule" (defArgs s_schedule) (defBody s_schedule) (defScope s_schedule) .none kV_schedule dc_schedule pm_schedule an_schedule cd_schedule ct_schedule), sl_schedule⟩)
    (d_schedule : PySem.W.codeIn K cd_schedule "schedule" = true) (k_schedule : PySem.W.keepIn K (.ref a_schedule) = true)
    (x_law : PySem.W.nsIn K mainGlobals "law" = some (some (.ref a_law)))
    (l_law : K.lookup a_law = some ⟨oc_law, od_law, .func (PySem.W.fnOf "law" "law" (defArgs s_law) (defBody s_law) (defScope s_law) .none kV_law dc_law pm_law an_law cd_law ct_law), sl_law⟩)
    (d_law : PySem.W.codeIn K cd_law "law" = true) (k_law : PySem.W.keepIn K (.ref a_law) = true) :
    ∃ fd : FuncData, (∀ (s : Shared) (v : Value), BindsTo s fd ⟨[v], []⟩ [("_law_script", v)]) ∧ ∀ base : Heap, K.In base → base.Ns mainGlobals mg → FnOk l.prog w K mg base (L2.CX l.prog w) 10 fa fd ["_law_script"] (spLaw K []) := by
  have e := hfa.symm.trans (PySem.W.mg_of X G x_law)
  cases e
  let cl : Nat → Addr := fun i => if i = 0 then C0 else if i = 1 then C1 else if i = 2 then C2 else if i = 3 then C3 else if i = 4 then C4 else if i = 5 then C5 else if i = 6 then C6 else 0
  have TT : ∀ W : Wd, W.cl = cl → Txt K w mg W := fun W hW => ⟨by rw [hW]; exact ⟨pg4, hd4, po4, sa4⟩, by rw [hW]; exact ⟨pg5, hd5, po5, sa5⟩, by rw [hW]; exact ⟨pg6, hd6, po6, sa6⟩, by rw [hW]; exact ⟨xb3, PySem.W.mg_of X G aC3, kc3, sb3, ty3⟩, by rw [hW]; exact ⟨xb2, PySem.W.mg_of X G aC2, kc2, sb2, ty2⟩, by rw [hW]; exact PySem.W.mg_of X G aC3, by rw [hW]; exact PySem.W.mg_of X G aC5, (by rw [hW]; intro i t h; unfold is5 at h; (by_cases e0 : i = 5; (subst e0; rw [if_pos rfl] at h; cases h; exact ⟨⟨⟨pg5, hd5, po5, sa5⟩, ia5, in5, it5, im5⟩, kit_self⟩)); rw [if_neg e0] at h; (by_cases e1 : i = 6; (subst e1; rw [if_pos rfl] at h; cases h; exact ⟨⟨⟨pg6, hd6, po6, sa6⟩, ia6, in6, it6, im6⟩, kit_no hd5 kt5 kn6_5 ks5⟩)); rw [if_neg e1] at h; cases h), (by rw [hW]; intro i t h; unfold tr3 at h; (by_cases e0 : i = 2; (subst e0; rw [if_pos rfl] at h; cases h; exact PySem.W.exm_ref sb3 hd3 ty3 se2_3)); rw [if_neg e0] at h; (by_cases e1 : i = 3; (subst e1; rw [if_pos rfl] at h; cases h; exact PySem.W.exm_ref sb3 hd3 ty3 se3_3)); rw [if_neg e1] at h; cases h), by rw [hW]; exact n5_shift, by rw [hW]; exact n4_cast, by rw [hW]; exact n4_parts, by rw [hW]; exact n4_way, by rw [hW]; exact n6_one, by rw [hW]; exact n6_other, by rw [hW]; exact n6_width, PySem.W.mg_none_of X G b_abs, PySem.W.mg_none_of X G b_all, PySem.W.mg_none_of X G b_any, PySem.W.mg_none_of X G b_bool, PySem.W.mg_none_of X G b_enumerate, PySem.W.mg_none_of X G b_int, PySem.W.mg_none_of X G b_isinstance, PySem.W.mg_none_of X G b_len, PySem.W.mg_none_of X G b_list, PySem.W.mg_none_of X G b_max, PySem.W.mg_none_of X G b_min, PySem.W.mg_none_of X G b_range, PySem.W.mg_none_of X G b_set, PySem.W.mg_none_of X G b_sorted, PySem.W.mg_none_of X G b_str, PySem.W.mg_none_of X G b_sum, PySem.W.mg_none_of X G b_tuple, ⟨_, PySem.W.mg_of X G c_MOST⟩, ⟨_, PySem.W.mg_of X G c_MOST_BASE⟩, ⟨_, PySem.W.mg_of X G c_MOST_CELLS⟩, ⟨_, PySem.W.mg_of X G c_MOST_CHANGE⟩, ⟨_, PySem.W.mg_of X G c_MOST_GROWTH⟩, ⟨_, PySem.W.mg_of X G c_MOST_MEASURE⟩, ⟨_, PySem.W.mg_of X G c_MOST_PARTS⟩, ⟨_, PySem.W.mg_of X G c_MOST_REST⟩, ⟨_, PySem.W.mg_of X G c_MOST_RISE⟩, ⟨_, PySem.W.mg_of X G c_MOST_ROWS⟩, ⟨_, PySem.W.mg_of X G c_MOST_TOTAL⟩, ⟨_, PySem.W.mg_of X G kt_KINDS, ktabs_of kd_KINDS kv_KINDS (by decide)⟩⟩
  have F_Even___bool__ := fun_mk (st := s_Even___bool__) l_Even___bool__ d_Even___bool__ k_Even___bool__
  have B_Even___bool__ := F_Even___bool__.binds (ps := ["self"]) fun _ _ _ _ _ _ us hl => match us, hl with | [_], _ => rfl
  have F_Even___init__ := fun_mk (st := s_Even___init__) l_Even___init__ d_Even___init__ k_Even___init__
  have B_Even___init__ := F_Even___init__.binds (ps := ["self", "shift"]) fun _ _ _ _ _ _ us hl => match us, hl with | [_, _], _ => rfl
  have F_is_number := fun_mk (st := s_is_number) l_is_number d_is_number k_is_number
  have B_is_number := F_is_number.binds (ps := ["thing"]) fun _ _ _ _ _ _ us hl => match us, hl with | [_], _ => rfl
  have F_check_gaps := fun_mk (st := s_check_gaps) l_check_gaps d_check_gaps k_check_gaps
  have B_check_gaps := F_check_gaps.binds (ps := ["gaps"]) fun _ _ _ _ _ _ us hl => match us, hl with | [_], _ => rfl
  have F_spread_again := fun_mk (st := s_spread_again) l_spread_again d_spread_again k_spread_again
  have B_spread_again := F_spread_again.binds (ps := ["gaps"]) fun _ _ _ _ _ _ us hl => match us, hl with | [_], _ => rfl
  have F_Even_shows := fun_mk (st := s_Even_shows) l_Even_shows d_Even_shows k_Even_shows
  have B_Even_shows := F_Even_shows.binds (ps := ["self", "gaps"]) fun _ _ _ _ _ _ us hl => match us, hl with | [_, _], _ => rfl
  have F_Uneven___bool__ := fun_mk (st := s_Uneven___bool__) l_Uneven___bool__ d_Uneven___bool__ k_Uneven___bool__
  have B_Uneven___bool__ := F_Uneven___bool__.binds (ps := ["self"]) fun _ _ _ _ _ _ us hl => match us, hl with | [_], _ => rfl
  have F_Uneven___init__ := fun_mk (st := s_Uneven___init__) l_Uneven___init__ d_Uneven___init__ k_Uneven___init__
  have B_Uneven___init__ := F_Uneven___init__.binds (ps := ["self", "one", "other", "width"]) fun _ _ _ _ _ _ us hl => match us, hl with | [_, _, _, _], _ => rfl
  have F_sum_from := fun_mk (st := s_sum_from) l_sum_from d_sum_from k_sum_from
  have B_sum_from := F_sum_from.binds (ps := ["gaps", "start", "many"]) fun _ _ _ _ _ _ us hl => match us, hl with | [_, _, _], _ => rfl
  have F_Uneven_shows := fun_mk (st := s_Uneven_shows) l_Uneven_shows d_Uneven_shows k_Uneven_shows
  have B_Uneven_shows := F_Uneven_shows.binds (ps := ["self", "gaps"]) fun _ _ _ _ _ _ us hl => match us, hl with | [_, _], _ => rfl
  have F__law_even := fun_mk (st := s__law_even) l__law_even d__law_even k__law_even
  have B__law_even := F__law_even.binds (ps := ["_law_gaps"]) fun _ _ _ _ _ _ us hl => match us, hl with | [_], _ => rfl
  have F__law_sum := fun_mk (st := s__law_sum) l__law_sum d__law_sum k__law_sum
  have B__law_sum := F__law_sum.binds (ps := ["_law_gaps", "_law_start", "_law_width"]) fun _ _ _ _ _ _ us hl => match us, hl with | [_, _, _], _ => rfl
  have F_judge_spread := fun_mk (st := s_judge_spread) l_judge_spread d_judge_spread k_judge_spread
  have B_judge_spread := F_judge_spread.binds (ps := ["gaps"]) fun _ _ _ _ _ _ us hl => match us, hl with | [_], _ => rfl
  have F_spread := fun_mk (st := s_spread) l_spread d_spread k_spread
  have B_spread := F_spread.binds (ps := ["total", "parts"]) fun _ _ _ _ _ _ us hl => match us, hl with | [_, _], _ => rfl
  have F__law_judged := fun_mk (st := s__law_judged) l__law_judged d__law_judged k__law_judged
  have B__law_judged := F__law_judged.binds (ps := ["_law_gaps"]) fun _ _ _ _ _ _ us hl => match us, hl with | [_], _ => rfl
  have F__law_kinds := fun_mk (st := s__law_kinds) l__law_kinds d__law_kinds k__law_kinds
  have B__law_kinds := F__law_kinds.binds (ps := []) fun _ _ _ _ _ _ us hl => match us, hl with | [], _ => rfl
  have F__law_all_rows := fun_mk (st := s__law_all_rows) l__law_all_rows d__law_all_rows k__law_all_rows
  have B__law_all_rows := F__law_all_rows.binds (ps := ["_law_parts", "_law_size"]) fun _ _ _ _ _ _ us hl => match us, hl with | [_, _], _ => rfl
  have F__law_number := fun_mk (st := s__law_number) l__law_number d__law_number k__law_number
  have B__law_number := F__law_number.binds (ps := ["_law_script", "_law_index"]) fun _ _ _ _ _ _ us hl => match us, hl with | [_, _], _ => rfl
  have F__law_take := fun_mk (st := s__law_take) l__law_take d__law_take k__law_take
  have B__law_take := F__law_take.binds (ps := ["_law_draw", "_law_many"]) fun _ _ _ _ _ _ us hl => match us, hl with | [_, _], _ => rfl
  have F__law_pick := fun_mk (st := s__law_pick) l__law_pick d__law_pick k__law_pick
  have B__law_pick := F__law_pick.binds (ps := ["_law_draw", "_law_items"]) fun _ _ _ _ _ _ us hl => match us, hl with | [_, _], _ => rfl
  have F__law_cell := fun_mk (st := s__law_cell) l__law_cell d__law_cell k__law_cell
  have B__law_cell := F__law_cell.binds (ps := ["_law_draw", "_law_yarns"]) fun _ _ _ _ _ _ us hl => match us, hl with | [_, _], _ => rfl
  have F__law_word := fun_mk (st := s__law_word) l__law_word d__law_word k__law_word
  have B__law_word := F__law_word.binds (ps := ["_law_draw", "_law_many", "_law_yarns"]) fun _ _ _ _ _ _ us hl => match us, hl with | [_, _, _], _ => rfl
  have F__law_easy_row := fun_mk (st := s__law_easy_row) l__law_easy_row d__law_easy_row k__law_easy_row
  have B__law_easy_row := F__law_easy_row.binds (ps := ["_law_draw", "_law_yarns"]) fun _ _ _ _ _ _ us hl => match us, hl with | [_, _], _ => rfl
  have F__law_makes := fun_mk (st := s__law_makes) l__law_makes d__law_makes k__law_makes
  have B__law_makes := F__law_makes.binds (ps := ["_law_word_here", "_law_kinds_here"]) fun _ _ _ _ _ _ us hl => match us, hl with | [_, _], _ => rfl
  have F__law_takes := fun_mk (st := s__law_takes) l__law_takes d__law_takes k__law_takes
  have B__law_takes := F__law_takes.binds (ps := ["_law_word_here", "_law_kinds_here"]) fun _ _ _ _ _ _ us hl => match us, hl with | [_, _], _ => rfl
  have F_makes := fun_mk (st := s_makes) l_makes d_makes k_makes
  have B_makes := F_makes.binds (ps := ["word"]) fun _ _ _ _ _ _ us hl => match us, hl with | [_], _ => rfl
  have F_rows_of := fun_mk (st := s_rows_of) l_rows_of d_rows_of k_rows_of
  have B_rows_of := F_rows_of.binds (ps := ["part"]) fun _ _ _ _ _ _ us hl => match us, hl with | [_], _ => rfl
  have F_takes := fun_mk (st := s_takes) l_takes d_takes k_takes
  have B_takes := F_takes.binds (ps := ["word"]) fun _ _ _ _ _ _ us hl => match us, hl with | [_], _ => rfl
  have F_growth_of := fun_mk (st := s_growth_of) l_growth_of d_growth_of k_growth_of
  have B_growth_of := F_growth_of.binds (ps := ["parts"]) fun _ _ _ _ _ _ us hl => match us, hl with | [_], _ => rfl
  have F_is_line := fun_mk (st := s_is_line) l_is_line d_is_line k_is_line
  have B_is_line := F_is_line.binds (ps := ["thing"]) fun _ _ _ _ _ _ us hl => match us, hl with | [_], _ => rfl
  have F_is_even := fun_mk (st := s_is_even) l_is_even d_is_even k_is_even
  have B_is_even := F_is_even.binds (ps := ["row"]) fun _ _ _ _ _ _ us hl => match us, hl with | [_], _ => rfl
  have F_is_kind := fun_mk (st := s_is_kind) l_is_kind d_is_kind k_is_kind
  have B_is_kind := F_is_kind.binds (ps := ["thing"]) fun _ _ _ _ _ _ us hl => match us, hl with | [_], _ => rfl
  have F_is_yarn := fun_mk (st := s_is_yarn) l_is_yarn d_is_yarn k_is_yarn
  have B_is_yarn := F_is_yarn.binds (ps := ["thing"]) fun _ _ _ _ _ _ us hl => match us, hl with | [_], _ => rfl
  have F_is_cell := fun_mk (st := s_is_cell) l_is_cell d_is_cell k_is_cell
  have B_is_cell := F_is_cell.binds (ps := ["thing"]) fun _ _ _ _ _ _ us hl => match us, hl with | [_], _ => rfl
  have F_is_word := fun_mk (st := s_is_word) l_is_word d_is_word k_is_word
  have B_is_word := F_is_word.binds (ps := ["thing"]) fun _ _ _ _ _ _ us hl => match us, hl with | [_], _ => rfl
  have F_is_row := fun_mk (st := s_is_row) l_is_row d_is_row k_is_row
  have B_is_row := F_is_row.binds (ps := ["thing"]) fun _ _ _ _ _ _ us hl => match us, hl with | [_], _ => rfl
  have F_change_of := fun_mk (st := s_change_of) l_change_of d_change_of k_change_of
  have B_change_of := F_change_of.binds (ps := ["row"]) fun _ _ _ _ _ _ us hl => match us, hl with | [_], _ => rfl
  have F_round_change := fun_mk (st := s_round_change) l_round_change d_round_change k_round_change
  have B_round_change := F_round_change.binds (ps := ["part"]) fun _ _ _ _ _ _ us hl => match us, hl with | [_], _ => rfl
  have F_is_part := fun_mk (st := s_is_part) l_is_part d_is_part k_is_part
  have B_is_part := F_is_part.binds (ps := ["thing"]) fun _ _ _ _ _ _ us hl => match us, hl with | [_], _ => rfl
  have F_common := fun_mk (st := s_common) l_common d_common k_common
  have B_common := F_common.binds (ps := ["one", "two"]) fun _ _ _ _ _ _ us hl => match us, hl with | [_, _], _ => rfl
  have F_measure_of := fun_mk (st := s_measure_of) l_measure_of d_measure_of k_measure_of
  have B_measure_of := F_measure_of.binds (ps := ["parts"]) fun _ _ _ _ _ _ us hl => match us, hl with | [_], _ => rfl
  have F_Piece___init__ := fun_mk (st := s_Piece___init__) l_Piece___init__ d_Piece___init__ k_Piece___init__
  have B_Piece___init__ := F_Piece___init__.binds (ps := ["self", "way", "cast", "parts"]) fun _ _ _ _ _ _ us hl => match us, hl with | [_, _, _, _], _ => rfl
  have F_plain_parts := fun_mk (st := s_plain_parts) l_plain_parts d_plain_parts k_plain_parts
  have B_plain_parts := F_plain_parts.binds (ps := ["row", "many"]) fun _ _ _ _ _ _ us hl => match us, hl with | [_, _], _ => rfl
  have F_shaped := fun_mk (st := s_shaped) l_shaped d_shaped k_shaped
  have B_shaped := F_shaped.binds (ps := ["way", "cast", "plain", "change", "gaps"]) fun _ _ _ _ _ _ us hl => match us, hl with | [_, _, _, _, _], _ => rfl
  have F__law_shaped := fun_mk (st := s__law_shaped) l__law_shaped d__law_shaped k__law_shaped
  have B__law_shaped := F__law_shaped.binds (ps := ["_law_draw", "_law_kinds_here"]) fun _ _ _ _ _ _ us hl => match us, hl with | [_, _], _ => rfl
  have F_schedule := fun_mk (st := s_schedule) l_schedule d_schedule k_schedule
  have B_schedule := F_schedule.binds (ps := ["rows", "times"]) fun _ _ _ _ _ _ us hl => match us, hl with | [_, _], _ => rfl
  have F_law := fun_mk (st := s_law) l_law d_law k_law
  refine ⟨PySem.W.fnOf "law" "law" (defArgs s_law) (defBody s_law) (defScope s_law) .none kV_law dc_law pm_law an_law cd_law ct_law, fun s v => .of_eq rfl, fun base _ _ => ?_⟩
  refine okLaw (cl := cl) (rest := (defBody s_law).drop 1) (fun W => g_law W) F_law sc_law rfl (fun cdv A outer s H E => ps_set (i := 1) sc_law.nd rfl (Or.inr rfl) (pe_lst (pa_cons (pv 0) (pa_cons pe_int pa_nil)))) (fun W hW hTb cdv hcv => ?_) (fun W h _ => K57.good W) (by decide)
  have T := TT W hW
  have G_Even___bool__ : CalM l.prog w K mg base (W.cl 5) "__bool__" 1 (spD K W (f_Even___bool__) 1) := ⟨_, _, _, ok_Even___bool__ F_Even___bool__ T , by rw [hW]; exact ⟨x_Even___bool__, i_Even___bool__, k_Even___bool__⟩, B_Even___bool__⟩
  have G_Even___init__ : CalI l.prog w K mg base (W.cl 5) "Even" 1 (spI K W (f_Even___init__) 5 1) := ⟨_, _, _, ok_Even___init__ F_Even___init__ T , by rw [hW]; exact ⟨mk5, x_Even___init__, i_Even___init__, kc5⟩, by rw [hW]; exact PySem.W.mg_of X G aC5, B_Even___init__⟩
  have G_is_number : Cal l.prog w K mg base "is_number" 1 (spD K W (f_is_number) 1) := ⟨_, _, _, ok_is_number F_is_number T , PySem.W.mg_of X G x_is_number, k_is_number, B_is_number⟩
  have G_check_gaps : Cal l.prog w K mg base "check_gaps" 2 (spD K W (f_check_gaps) 1) := ⟨_, _, _, ok_check_gaps F_check_gaps T G_is_number, PySem.W.mg_of X G x_check_gaps, k_check_gaps, B_check_gaps⟩
  have G_spread_again : Cal l.prog w K mg base "spread_again" 1 (spD K W (f_spread_again) 1) := ⟨_, _, _, ok_spread_again F_spread_again T , PySem.W.mg_of X G x_spread_again, k_spread_again, B_spread_again⟩
  have G_Even_shows : CalM l.prog w K mg base (W.cl 5) "shows" 3 (spD K W (f_Even_shows) 2) := ⟨_, _, _, ok_Even_shows F_Even_shows T G_check_gaps G_is_number G_spread_again, by rw [hW]; exact ⟨x_Even_shows, i_Even_shows, k_Even_shows⟩, B_Even_shows⟩
  have G_Uneven___bool__ : CalM l.prog w K mg base (W.cl 6) "__bool__" 1 (spD K W (f_Uneven___bool__) 1) := ⟨_, _, _, ok_Uneven___bool__ F_Uneven___bool__ T , by rw [hW]; exact ⟨x_Uneven___bool__, i_Uneven___bool__, k_Uneven___bool__⟩, B_Uneven___bool__⟩
  have G_Uneven___init__ : CalI l.prog w K mg base (W.cl 6) "Uneven" 1 (spI K W (f_Uneven___init__) 6 3) := ⟨_, _, _, ok_Uneven___init__ F_Uneven___init__ T , by rw [hW]; exact ⟨mk6, x_Uneven___init__, i_Uneven___init__, kc6⟩, by rw [hW]; exact PySem.W.mg_of X G aC6, B_Uneven___init__⟩
  have G_sum_from : Cal l.prog w K mg base "sum_from" 1 (spD K W (f_sum_from) 3) := ⟨_, _, _, ok_sum_from F_sum_from T , PySem.W.mg_of X G x_sum_from, k_sum_from, B_sum_from⟩
  have G_Uneven_shows : CalM l.prog w K mg base (W.cl 6) "shows" 3 (spD K W (f_Uneven_shows) 2) := ⟨_, _, _, ok_Uneven_shows F_Uneven_shows T G_check_gaps G_is_number G_sum_from, by rw [hW]; exact ⟨x_Uneven_shows, i_Uneven_shows, k_Uneven_shows⟩, B_Uneven_shows⟩
  have G__law_even : Cal l.prog w K mg base "_law_even" 1 (spD K W (f__law_even) 1) := ⟨_, _, _, ok__law_even F__law_even T , PySem.W.mg_of X G x__law_even, k__law_even, B__law_even⟩
  have G__law_sum : Cal l.prog w K mg base "_law_sum" 1 (spD K W (f__law_sum) 3) := ⟨_, _, _, ok__law_sum F__law_sum T , PySem.W.mg_of X G x__law_sum, k__law_sum, B__law_sum⟩
  have G_judge_spread : Cal l.prog w K mg base "judge_spread" 3 (spD K W (f_judge_spread) 1) := ⟨_, _, _, ok_judge_spread F_judge_spread T G_check_gaps G_spread_again G_sum_from G_Even___init__ G_Uneven___init__, PySem.W.mg_of X G x_judge_spread, k_judge_spread, B_judge_spread⟩
  have G_spread : Cal l.prog w K mg base "spread" 2 (spD K W (f_spread) 2) := ⟨_, _, _, ok_spread F_spread T G_is_number, PySem.W.mg_of X G x_spread, k_spread, B_spread⟩
  have G__law_judged : Cal l.prog w K mg base "_law_judged" 4 (spD K W (f__law_judged) 1) := ⟨_, _, _, ok__law_judged F__law_judged T G__law_even G__law_sum G_judge_spread G_spread G_Even___init__ G_Uneven___init__ G_Even___bool__ G_Even_shows G_Uneven___bool__ G_Uneven_shows, PySem.W.mg_of X G x__law_judged, k__law_judged, B__law_judged⟩
  have G__law_kinds : Cal l.prog w K mg base "_law_kinds" 1 (spD K W (f__law_kinds) 0) := ⟨_, _, _, ok__law_kinds F__law_kinds T , PySem.W.mg_of X G x__law_kinds, k__law_kinds, B__law_kinds⟩
  have G__law_all_rows : Cal l.prog w K mg base "_law_all_rows" 1 (spD K W (f__law_all_rows) 2) := ⟨_, _, _, ok__law_all_rows F__law_all_rows T , PySem.W.mg_of X G x__law_all_rows, k__law_all_rows, B__law_all_rows⟩
  have G__law_number : Cal l.prog w K mg base "_law_number" 1 (spD K W (f__law_number W) 2) := ⟨_, _, _, ok__law_number F__law_number T , PySem.W.mg_of X G x__law_number, k__law_number, B__law_number⟩
  have G__law_take : Cal l.prog w K mg base "_law_take" 2 (spD K W (f__law_take W) 2) := ⟨_, _, _, ok__law_take F__law_take T G__law_number, PySem.W.mg_of X G x__law_take, k__law_take, B__law_take⟩
  have G__law_pick : Cal l.prog w K mg base "_law_pick" 3 (spD K W (f__law_pick W) 2) := ⟨_, _, _, ok__law_pick F__law_pick T G__law_take, PySem.W.mg_of X G x__law_pick, k__law_pick, B__law_pick⟩
  have G__law_cell : Cal l.prog w K mg base "_law_cell" 4 (spD K W (f__law_cell W) 2) := ⟨_, _, _, ok__law_cell F__law_cell T G__law_pick, PySem.W.mg_of X G x__law_cell, k__law_cell, B__law_cell⟩
  have G__law_word : Cal l.prog w K mg base "_law_word" 5 (spD K W (f__law_word W) 3) := ⟨_, _, _, ok__law_word F__law_word T G__law_cell G__law_take, PySem.W.mg_of X G x__law_word, k__law_word, B__law_word⟩
  have G__law_easy_row : Cal l.prog w K mg base "_law_easy_row" 6 (spD K W (f__law_easy_row W) 2) := ⟨_, _, _, ok__law_easy_row F__law_easy_row T G__law_pick G__law_word, PySem.W.mg_of X G x__law_easy_row, k__law_easy_row, B__law_easy_row⟩
  have G__law_makes : Cal l.prog w K mg base "_law_makes" 1 (spD K W (f__law_makes) 2) := ⟨_, _, _, ok__law_makes F__law_makes T , PySem.W.mg_of X G x__law_makes, k__law_makes, B__law_makes⟩
  have G__law_takes : Cal l.prog w K mg base "_law_takes" 1 (spD K W (f__law_takes) 2) := ⟨_, _, _, ok__law_takes F__law_takes T , PySem.W.mg_of X G x__law_takes, k__law_takes, B__law_takes⟩
  have G_makes : Cal l.prog w K mg base "makes" 1 (spD K W (f_makes) 1) := ⟨_, _, _, ok_makes F_makes T , PySem.W.mg_of X G x_makes, k_makes, B_makes⟩
  have G_rows_of : Cal l.prog w K mg base "rows_of" 1 (spD K W (f_rows_of) 1) := ⟨_, _, _, ok_rows_of F_rows_of T , PySem.W.mg_of X G x_rows_of, k_rows_of, B_rows_of⟩
  have G_takes : Cal l.prog w K mg base "takes" 1 (spD K W (f_takes) 1) := ⟨_, _, _, ok_takes F_takes T , PySem.W.mg_of X G x_takes, k_takes, B_takes⟩
  have G_growth_of : Cal l.prog w K mg base "growth_of" 2 (spD K W (f_growth_of) 1) := ⟨_, _, _, ok_growth_of F_growth_of T G_makes G_rows_of G_takes, PySem.W.mg_of X G x_growth_of, k_growth_of, B_growth_of⟩
  have G_is_line : Cal l.prog w K mg base "is_line" 2 (spD K W (f_is_line) 1) := ⟨_, _, _, ok_is_line F_is_line T G_is_number, PySem.W.mg_of X G x_is_line, k_is_line, B_is_line⟩
  have G_is_even : Cal l.prog w K mg base "is_even" 2 (spD K W (f_is_even) 1) := ⟨_, _, _, ok_is_even F_is_even T G_makes G_takes, PySem.W.mg_of X G x_is_even, k_is_even, B_is_even⟩
  have G_is_kind : Cal l.prog w K mg base "is_kind" 1 (spD K W (f_is_kind) 1) := ⟨_, _, _, ok_is_kind F_is_kind T , PySem.W.mg_of X G x_is_kind, k_is_kind, B_is_kind⟩
  have G_is_yarn : Cal l.prog w K mg base "is_yarn" 1 (spD K W (f_is_yarn) 1) := ⟨_, _, _, ok_is_yarn F_is_yarn T , PySem.W.mg_of X G x_is_yarn, k_is_yarn, B_is_yarn⟩
  have G_is_cell : Cal l.prog w K mg base "is_cell" 2 (spD K W (f_is_cell) 1) := ⟨_, _, _, ok_is_cell F_is_cell T G_is_kind G_is_yarn, PySem.W.mg_of X G x_is_cell, k_is_cell, B_is_cell⟩
  have G_is_word : Cal l.prog w K mg base "is_word" 3 (spD K W (f_is_word) 1) := ⟨_, _, _, ok_is_word F_is_word T G_is_cell, PySem.W.mg_of X G x_is_word, k_is_word, B_is_word⟩
  have G_is_row : Cal l.prog w K mg base "is_row" 4 (spD K W (f_is_row) 1) := ⟨_, _, _, ok_is_row F_is_row T G_is_word G_takes, PySem.W.mg_of X G x_is_row, k_is_row, B_is_row⟩
  have G_change_of : Cal l.prog w K mg base "change_of" 2 (spD K W (f_change_of) 1) := ⟨_, _, _, ok_change_of F_change_of T G_makes G_takes, PySem.W.mg_of X G x_change_of, k_change_of, B_change_of⟩
  have G_round_change : Cal l.prog w K mg base "round_change" 3 (spD K W (f_round_change) 1) := ⟨_, _, _, ok_round_change F_round_change T G_change_of, PySem.W.mg_of X G x_round_change, k_round_change, B_round_change⟩
  have G_is_part : Cal l.prog w K mg base "is_part" 5 (spD K W (f_is_part) 1) := ⟨_, _, _, ok_is_part F_is_part T G_is_even G_is_line G_is_row G_round_change, PySem.W.mg_of X G x_is_part, k_is_part, B_is_part⟩
  have G_common : Cal l.prog w K mg base "common" 1 (spD K W (f_common) 2) := ⟨_, _, _, ok_common F_common T , PySem.W.mg_of X G x_common, k_common, B_common⟩
  have G_measure_of : Cal l.prog w K mg base "measure_of" 3 (spD K W (f_measure_of) 1) := ⟨_, _, _, ok_measure_of F_measure_of T G_common G_is_even G_rows_of G_takes, PySem.W.mg_of X G x_measure_of, k_measure_of, B_measure_of⟩
  have G_Piece___init__ : CalI l.prog w K mg base (W.cl 4) "Piece" 6 (spI K W (f_Piece___init__) 4 3) := ⟨_, _, _, ok_Piece___init__ F_Piece___init__ T G_growth_of G_is_line G_is_part G_measure_of, by rw [hW]; exact ⟨mk4, x_Piece___init__, i_Piece___init__, kc4⟩, by rw [hW]; exact PySem.W.mg_of X G aC4, B_Piece___init__⟩
  have G_plain_parts : Cal l.prog w K mg base "plain_parts" 3 (spD K W (f_plain_parts) 2) := ⟨_, _, _, ok_plain_parts F_plain_parts T G_is_even, PySem.W.mg_of X G x_plain_parts, k_plain_parts, B_plain_parts⟩
  have G_shaped : Cal l.prog w K mg base "shaped" 8 (spD K W (f_shaped) 5) := ⟨_, _, _, ok_shaped F_shaped T G_check_gaps G_is_row G_plain_parts G_Piece___init__, PySem.W.mg_of X G x_shaped, k_shaped, B_shaped⟩
  have G__law_shaped : Cal l.prog w K mg base "_law_shaped" 9 (spD K W (f__law_shaped W) 2) := ⟨_, _, _, ok__law_shaped F__law_shaped T G__law_all_rows G__law_easy_row G__law_makes G__law_take G__law_takes G_shaped, PySem.W.mg_of X G x__law_shaped, k__law_shaped, B__law_shaped⟩
  have G_schedule : Cal l.prog w K mg base "schedule" 2 (spD K W (f_schedule) 2) := ⟨_, _, _, ok_schedule F_schedule T G_is_number, PySem.W.mg_of X G x_schedule, k_schedule, B_schedule⟩
  exact body_law F_law T G__law_judged G__law_kinds G__law_shaped G__law_take G_judge_spread G_schedule G_spread (Nat.le_refl _) cdv
end P_k57_whole_spread
open PySem PySem.W PyProof.Rows in
set_option maxRecDepth 100000 in
set_option maxHeartbeats 0 in
theorem PySem.Challenge.cw_allstitches_k57_whole_spread_holds : PySem.Challenge.rw_allstitches_k57_whole_spread.Holds := by
  w_on; o_law; k_head; (case hw => w_witness2)
  k_fill
  refine DL.law_walk (l := PySem.Challenge.rw_allstitches_k57_whole_spread) (k := 10) (x := "_law_script") rfl rfl ⟨rfl, by decide, by decide⟩ (fun w h Y => PySem.W.kIn_of Y) ?F
  case F =>
    intro w mg fa h KX G hmg
    refine' P_k57_whole_spread.all_mk KX G hmg ?aC0 ?aC1 ?aC2 ?aC3 ?aC4 ?aC5 ?aC6 ?xb2 ?kc2 ?sb2 ?ty2 ?hd2 ?xb3 ?kc3 ?sb3 ?ty3 ?hd3 ?se2_3 ?se3_3 ?pg4 ?hd4 ?po4 ?sa4 ?mk4 ?kc4 ?ia5 ?in5 ?it5 ?im5 ?kt5 ?ks5 ?kn6_5 ?pg5 ?hd5 ?po5 ?sa5 ?mk5 ?kc5 ?ia6 ?in6 ?it6 ?im6 ?pg6 ?hd6 ?po6 ?sa6 ?mk6 ?kc6 ?n5_shift ?n4_cast ?n4_parts ?n4_way ?n6_one ?n6_other ?n6_width ?b_abs ?b_all ?b_any ?b_bool ?b_enumerate ?b_int ?b_isinstance ?b_len ?b_list ?b_max ?b_min ?b_range ?b_set ?b_sorted ?b_str ?b_sum ?b_tuple ?c_MOST ?c_MOST_BASE ?c_MOST_CELLS ?c_MOST_CHANGE ?c_MOST_GROWTH ?c_MOST_MEASURE ?c_MOST_PARTS ?c_MOST_REST ?c_MOST_RISE ?c_MOST_ROWS ?c_MOST_TOTAL ?kt_KINDS ?kd_KINDS ?kv_KINDS ?x_Even___bool__ ?i_Even___bool__ ?l_Even___bool__ ?d_Even___bool__ ?k_Even___bool__ ?x_Even___init__ ?i_Even___init__ ?l_Even___init__ ?d_Even___init__ ?k_Even___init__ ?x_is_number ?l_is_number ?d_is_number ?k_is_number ?x_check_gaps ?l_check_gaps ?d_check_gaps ?k_check_gaps ?x_spread_again ?l_spread_again ?d_spread_again ?k_spread_again ?x_Even_shows ?i_Even_shows ?l_Even_shows ?d_Even_shows ?k_Even_shows ?x_Uneven___bool__ ?i_Uneven___bool__ ?l_Uneven___bool__ ?d_Uneven___bool__ ?k_Uneven___bool__ ?x_Uneven___init__ ?i_Uneven___init__ ?l_Uneven___init__ ?d_Uneven___init__ ?k_Uneven___init__ ?x_sum_from ?l_sum_from ?d_sum_from ?k_sum_from ?x_Uneven_shows ?i_Uneven_shows ?l_Uneven_shows ?d_Uneven_shows ?k_Uneven_shows ?x__law_even ?l__law_even ?d__law_even ?k__law_even ?x__law_sum ?l__law_sum ?d__law_sum ?k__law_sum ?x_judge_spread ?l_judge_spread ?d_judge_spread ?k_judge_spread ?x_spread ?l_spread ?d_spread ?k_spread ?x__law_judged ?l__law_judged ?d__law_judged ?k__law_judged ?x__law_kinds ?l__law_kinds ?d__law_kinds ?k__law_kinds ?x__law_all_rows ?l__law_all_rows ?d__law_all_rows ?k__law_all_rows ?x__law_number ?l__law_number ?d__law_number ?k__law_number ?x__law_take ?l__law_take ?d__law_take ?k__law_take ?x__law_pick ?l__law_pick ?d__law_pick ?k__law_pick ?x__law_cell ?l__law_cell ?d__law_cell ?k__law_cell ?x__law_word ?l__law_word ?d__law_word ?k__law_word ?x__law_easy_row ?l__law_easy_row ?d__law_easy_row ?k__law_easy_row ?x__law_makes ?l__law_makes ?d__law_makes ?k__law_makes ?x__law_takes ?l__law_takes ?d__law_takes ?k__law_takes ?x_makes ?l_makes ?d_makes ?k_makes ?x_rows_of ?l_rows_of ?d_rows_of ?k_rows_of ?x_takes ?l_takes ?d_takes ?k_takes ?x_growth_of ?l_growth_of ?d_growth_of ?k_growth_of ?x_is_line ?l_is_line ?d_is_line ?k_is_line ?x_is_even ?l_is_even ?d_is_even ?k_is_even ?x_is_kind ?l_is_kind ?d_is_kind ?k_is_kind ?x_is_yarn ?l_is_yarn ?d_is_yarn ?k_is_yarn ?x_is_cell ?l_is_cell ?d_is_cell ?k_is_cell ?x_is_word ?l_is_word ?d_is_word ?k_is_word ?x_is_row ?l_is_row ?d_is_row ?k_is_row ?x_change_of ?l_change_of ?d_change_of ?k_change_of ?x_round_change ?l_round_change ?d_round_change ?k_round_change ?x_is_part ?l_is_part ?d_is_part ?k_is_part ?x_common ?l_common ?d_common ?k_common ?x_measure_of ?l_measure_of ?d_measure_of ?k_measure_of ?x_Piece___init__ ?i_Piece___init__ ?l_Piece___init__ ?d_Piece___init__ ?k_Piece___init__ ?x_plain_parts ?l_plain_parts ?d_plain_parts ?k_plain_parts ?x_shaped ?l_shaped ?d_shaped ?k_shaped ?x__law_shaped ?l__law_shaped ?d__law_shaped ?k__law_shaped ?x_schedule ?l_schedule ?d_schedule ?k_schedule ?x_law ?l_law ?d_law ?k_law
    (case aC0 => k_is)
    (case aC1 => k_is)
    (case aC2 => k_is)
    (case aC3 => k_is)
    (case aC4 => k_is)
    (case aC5 => k_is)
    (case aC6 => k_is)
    (case xb2 => k_exc)
    (case kc2 => k_is)
    (case sb2 => k_is)
    (case ty2 => k_is)
    (case hd2 => k_is)
    (case xb3 => k_exc)
    (case kc3 => k_is)
    (case sb3 => k_is)
    (case ty3 => k_is)
    (case hd3 => k_is)
    (case se2_3 => k_is)
    (case se3_3 => k_is)
    (case pg4 => k_is)
    (case hd4 => k_is)
    (case po4 => k_is)
    (case sa4 => k_is)
    (case mk4 => k_is)
    (case kc4 => k_is)
    (case ia5 => k_is)
    (case in5 => k_is)
    (case it5 => k_is)
    (case im5 => k_is)
    (case kt5 => k_is)
    (case ks5 => k_is)
    (case kn6_5 => k_is)
    (case pg5 => k_is)
    (case hd5 => k_is)
    (case po5 => k_is)
    (case sa5 => k_is)
    (case mk5 => k_is)
    (case kc5 => k_is)
    (case ia6 => k_is)
    (case in6 => k_is)
    (case it6 => k_is)
    (case im6 => k_is)
    (case pg6 => k_is)
    (case hd6 => k_is)
    (case po6 => k_is)
    (case sa6 => k_is)
    (case mk6 => k_is)
    (case kc6 => k_is)
    (case n5_shift => k_is)
    (case n4_cast => k_is)
    (case n4_parts => k_is)
    (case n4_way => k_is)
    (case n6_one => k_is)
    (case n6_other => k_is)
    (case n6_width => k_is)
    (case b_abs => k_is)
    (case b_all => k_is)
    (case b_any => k_is)
    (case b_bool => k_is)
    (case b_enumerate => k_is)
    (case b_int => k_is)
    (case b_isinstance => k_is)
    (case b_len => k_is)
    (case b_list => k_is)
    (case b_max => k_is)
    (case b_min => k_is)
    (case b_range => k_is)
    (case b_set => k_is)
    (case b_sorted => k_is)
    (case b_str => k_is)
    (case b_sum => k_is)
    (case b_tuple => k_is)
    (case c_MOST => k_is)
    (case c_MOST_BASE => k_is)
    (case c_MOST_CELLS => k_is)
    (case c_MOST_CHANGE => k_is)
    (case c_MOST_GROWTH => k_is)
    (case c_MOST_MEASURE => k_is)
    (case c_MOST_PARTS => k_is)
    (case c_MOST_REST => k_is)
    (case c_MOST_RISE => k_is)
    (case c_MOST_ROWS => k_is)
    (case c_MOST_TOTAL => k_is)
    (case kt_KINDS => k_is)
    (case kd_KINDS => kernel_rfl)
    (case kv_KINDS => kernel_rfl)
    (case x_Even___bool__ => k_is)
    (case i_Even___bool__ => k_is)
    (case l_Even___bool__ => k_is)
    (case d_Even___bool__ => k_is)
    (case k_Even___bool__ => k_is)
    (case x_Even___init__ => k_is)
    (case i_Even___init__ => k_is)
    (case l_Even___init__ => k_is)
    (case d_Even___init__ => k_is)
    (case k_Even___init__ => k_is)
    (case x_is_number => k_is)
    (case l_is_number => k_is)
    (case d_is_number => k_is)
    (case k_is_number => k_is)
    (case x_check_gaps => k_is)
    (case l_check_gaps => k_is)
    (case d_check_gaps => k_is)
    (case k_check_gaps => k_is)
    (case x_spread_again => k_is)
    (case l_spread_again => k_is)
    (case d_spread_again => k_is)
    (case k_spread_again => k_is)
    (case x_Even_shows => k_is)
    (case i_Even_shows => k_is)
    (case l_Even_shows => k_is)
    (case d_Even_shows => k_is)
    (case k_Even_shows => k_is)
    (case x_Uneven___bool__ => k_is)
    (case i_Uneven___bool__ => k_is)
    (case l_Uneven___bool__ => k_is)
    (case d_Uneven___bool__ => k_is)
    (case k_Uneven___bool__ => k_is)
    (case x_Uneven___init__ => k_is)
    (case i_Uneven___init__ => k_is)
    (case l_Uneven___init__ => k_is)
    (case d_Uneven___init__ => k_is)
    (case k_Uneven___init__ => k_is)
    (case x_sum_from => k_is)
    (case l_sum_from => k_is)
    (case d_sum_from => k_is)
    (case k_sum_from => k_is)
    (case x_Uneven_shows => k_is)
    (case i_Uneven_shows => k_is)
    (case l_Uneven_shows => k_is)
    (case d_Uneven_shows => k_is)
    (case k_Uneven_shows => k_is)
    (case x__law_even => k_is)
    (case l__law_even => k_is)
    (case d__law_even => k_is)
    (case k__law_even => k_is)
    (case x__law_sum => k_is)
    (case l__law_sum => k_is)
    (case d__law_sum => k_is)
    (case k__law_sum => k_is)
    (case x_judge_spread => k_is)
    (case l_judge_spread => k_is)
    (case d_judge_spread => k_is)
    (case k_judge_spread => k_is)
    (case x_spread => k_is)
    (case l_spread => k_is)
    (case d_spread => k_is)
    (case k_spread => k_is)
    (case x__law_judged => k_is)
    (case l__law_judged => k_is)
    (case d__law_judged => k_is)
    (case k__law_judged => k_is)
    (case x__law_kinds => k_is)
    (case l__law_kinds => k_is)
    (case d__law_kinds => k_is)
    (case k__law_kinds => k_is)
    (case x__law_all_rows => k_is)
    (case l__law_all_rows => k_is)
    (case d__law_all_rows => k_is)
    (case k__law_all_rows => k_is)
    (case x__law_number => k_is)
    (case l__law_number => k_is)
    (case d__law_number => k_is)
    (case k__law_number => k_is)
    (case x__law_take => k_is)
    (case l__law_take => k_is)
    (case d__law_take => k_is)
    (case k__law_take => k_is)
    (case x__law_pick => k_is)
    (case l__law_pick => k_is)
    (case d__law_pick => k_is)
    (case k__law_pick => k_is)
    (case x__law_cell => k_is)
    (case l__law_cell => k_is)
    (case d__law_cell => k_is)
    (case k__law_cell => k_is)
    (case x__law_word => k_is)
    (case l__law_word => k_is)
    (case d__law_word => k_is)
    (case k__law_word => k_is)
    (case x__law_easy_row => k_is)
    (case l__law_easy_row => k_is)
    (case d__law_easy_row => k_is)
    (case k__law_easy_row => k_is)
    (case x__law_makes => k_is)
    (case l__law_makes => k_is)
    (case d__law_makes => k_is)
    (case k__law_makes => k_is)
    (case x__law_takes => k_is)
    (case l__law_takes => k_is)
    (case d__law_takes => k_is)
    (case k__law_takes => k_is)
    (case x_makes => k_is)
    (case l_makes => k_is)
    (case d_makes => k_is)
    (case k_makes => k_is)
    (case x_rows_of => k_is)
    (case l_rows_of => k_is)
    (case d_rows_of => k_is)
    (case k_rows_of => k_is)
    (case x_takes => k_is)
    (case l_takes => k_is)
    (case d_takes => k_is)
    (case k_takes => k_is)
    (case x_growth_of => k_is)
    (case l_growth_of => k_is)
    (case d_growth_of => k_is)
    (case k_growth_of => k_is)
    (case x_is_line => k_is)
    (case l_is_line => k_is)
    (case d_is_line => k_is)
    (case k_is_line => k_is)
    (case x_is_even => k_is)
    (case l_is_even => k_is)
    (case d_is_even => k_is)
    (case k_is_even => k_is)
    (case x_is_kind => k_is)
    (case l_is_kind => k_is)
    (case d_is_kind => k_is)
    (case k_is_kind => k_is)
    (case x_is_yarn => k_is)
    (case l_is_yarn => k_is)
    (case d_is_yarn => k_is)
    (case k_is_yarn => k_is)
    (case x_is_cell => k_is)
    (case l_is_cell => k_is)
    (case d_is_cell => k_is)
    (case k_is_cell => k_is)
    (case x_is_word => k_is)
    (case l_is_word => k_is)
    (case d_is_word => k_is)
    (case k_is_word => k_is)
    (case x_is_row => k_is)
    (case l_is_row => k_is)
    (case d_is_row => k_is)
    (case k_is_row => k_is)
    (case x_change_of => k_is)
    (case l_change_of => k_is)
    (case d_change_of => k_is)
    (case k_change_of => k_is)
    (case x_round_change => k_is)
    (case l_round_change => k_is)
    (case d_round_change => k_is)
    (case k_round_change => k_is)
    (case x_is_part => k_is)
    (case l_is_part => k_is)
    (case d_is_part => k_is)
    (case k_is_part => k_is)
    (case x_common => k_is)
    (case l_common => k_is)
    (case d_common => k_is)
    (case k_common => k_is)
    (case x_measure_of => k_is)
    (case l_measure_of => k_is)
    (case d_measure_of => k_is)
    (case k_measure_of => k_is)
    (case x_Piece___init__ => k_is)
    (case i_Piece___init__ => k_is)
    (case l_Piece___init__ => k_is)
    (case d_Piece___init__ => k_is)
    (case k_Piece___init__ => k_is)
    (case x_plain_parts => k_is)
    (case l_plain_parts => k_is)
    (case d_plain_parts => k_is)
    (case k_plain_parts => k_is)
    (case x_shaped => k_is)
    (case l_shaped => k_is)
    (case d_shaped => k_is)
    (case k_shaped => k_is)
    (case x__law_shaped => k_is)
    (case l__law_shaped => k_is)
    (case d__law_shaped => k_is)
    (case k__law_shaped => k_is)
    (case x_schedule => k_is)
    (case l_schedule => k_is)
    (case d_schedule => k_is)
    (case k_schedule => k_is)
    (case x_law => k_is)
    (case l_law => k_is)
    (case d_law => k_is)
    (case k_law => k_is)
end
