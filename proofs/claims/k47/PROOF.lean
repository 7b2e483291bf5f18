import PyProof.Rows.All
import Wide.All
import OpenK.AllK
import Wide.FinOn
import HandS.ForMost
import HandS.TupMul
import HandS.TupAny
import HandS.Style
import HandS.IsInst
import HandS.Zip
import HandS.Conv
import HandS.More
import HandS.Flow
import HandS.Exc
import HandS.ExcOwn
import HandS.TryOnly
import HandS.Lambda
import HandS.HeadHook3
import KE.KRevSl
import HandS.SortInts
import HandS.Property
import KE.KOpsOwn
import HandS.Records
import HandS.DictComp
import HandS.ExcIs
import HandS.EndTab
import HandS.NestedK
import KE.KMinKey
import HandS.SortKw
import HandS.Deep
import PySem.Challenge.RW_allstitches_k47_whole_charts

section
set_option Elab.async false
set_option linter.all false
set_option autoImplicit false
set_option maxRecDepth 100000
/-! A data layer over the hand layer: values as plain data, environments as lists of slots, each def as a plain function. -/
namespace DL
open PySem PySem.Spec L2

/-- a value with all that hangs on it -/
inductive D where
  | non | bl (b : Bool) | int (i : Int) | str (x : Str)
  | tup (xs : List D) | lst (xs : List D)
  | dic (ks : List Key) (vs : List D)
  | dit (ks : List (List Key)) (vs : List D)
  | obj (c : Nat) (ks : List Str) (vs : List D)
  | drw | scr

/-- the classes' addresses, the script -/
structure Wd where
  cl : Nat → Addr
  ns : List Int
  tb : List (Addr × Str)

mutual
inductive Den (K : PySem.W.Frag) (W : Wd) (dr : Option Addr) (F : Hp) : V → D → Prop
  | non : Den K W dr F .non .non
  | bl (b : Bool) : Den K W dr F (.bl b) (.bl b)
  | int (i : Int) : Den K W dr F (.int i) (.int i)
  | str (x : Str) : Den K W dr F (.str x) (.str x)
  | tup {a : Addr} {vs : List V} {ds : List D} : SqT K F a vs → Dens K W dr F vs ds → Den K W dr F (.ref a) (.tup ds)
  | lst {a : Addr} {vs : List V} {ds : List D} : F a = some (.lst vs) → Dens K W dr F vs ds → Den K W dr F (.ref a) (.lst ds)
  | scr {a : Addr} : SqL K F a (W.ns.map V.int) → Den K W dr F (.ref a) .scr
  | dic {a : Addr} {ks : List Key} {vs : List V} {ds : List D} : ks.length = vs.length → Rd F a (.dK (ks.zip vs)) → Dens K W dr F vs ds → Den K W dr F (.ref a) (.dic ks ds)
  | dit {a : Addr} {ks : List (List Key)} {vs : List V} {ds : List D} : ks.length = vs.length → Rd F a (.dT (ks.zip vs)) → Dens K W dr F vs ds → Den K W dr F (.ref a) (.dit ks ds)
  | obj {a dx : Addr} {c : Nat} {ks : List Str} {vs : List V} {ds : List D} : ks.length = vs.length → F a = some (.ins (W.cl c) dx (ks.zip vs)) → Dens K W dr F vs ds → Den K W dr F (.ref a) (.obj c ks ds)
  | drw {a : Addr} : dr = some a → Den K W dr F (.ref a) .drw
inductive Dens (K : PySem.W.Frag) (W : Wd) (dr : Option Addr) (F : Hp) : List V → List D → Prop
  | nil : Dens K W dr F [] []
  | cons {v : V} {vs : List V} {d : D} {ds : List D} : Den K W dr F v d → Dens K W dr F vs ds → Dens K W dr F (v :: vs) (d :: ds)
end

/-- F is part of H -/
def Sub (F H : Hp) : Prop := ∀ a o, F a = some o → H a = some o
theorem Sub.refl (F : Hp) : Sub F F := fun _ _ h => h
theorem Sub.trans {F G H : Hp} (a : Sub F G) (b : Sub G H) : Sub F H := fun x o h => b x o (a x o h)
theorem Sub.rd {F G : Hp} (s : Sub F G) {a : Addr} {u : HO} (h : Rd F a u) : Rd G a u := by
  rcases h with h | ⟨o, h⟩
  · exact .inl (s _ _ h)
  · exact .inr ⟨o, s _ _ h⟩
theorem Sub.sqL {K : PySem.W.Frag} {F G : Hp} (s : Sub F G) {a : Addr} {xs : List V} (h : SqL K F a xs) : SqL K G a xs := h.imp s.rd id
theorem Sub.sqT {K : PySem.W.Frag} {F G : Hp} (s : Sub F G) {a : Addr} {xs : List V} (h : SqT K F a xs) : SqT K G a xs := h.imp s.rd id
theorem Sub.new {F H : Hp} (s : Sub F H) {p : Addr} {o : HO} (hp : H p = none) : Sub F (upd F p o) := fun a u h => by
  have hF : F p = none := by
    cases e : F p with
    | none => rfl
    | some z => rw [s _ _ e] at hp; cases hp
  rw [upd_ne (ne_of_none h hF)]
  exact h

section
variable {K : PySem.W.Frag} {W : Wd} {dr dr' : Option Addr} {F G : Hp}
mutual
theorem Den.mono (s : Sub F G) (e : ∀ a, dr = some a → dr' = some a) : ∀ {v : V} {d : D}, Den K W dr F v d → Den K W dr' G v d
  | _, _, .non => .non
  | _, _, .bl b => .bl b
  | _, _, .int i => .int i
  | _, _, .str x => .str x
  | _, _, .tup h r => .tup (s.sqT h) (Dens.mono s e r)
  | _, _, .lst h r => .lst (s _ _ h) (Dens.mono s e r)
  | _, _, .scr h => .scr (s.sqL h)
  | _, _, .dic l h r => .dic l (s.rd h) (Dens.mono s e r)
  | _, _, .dit l h r => .dit l (s.rd h) (Dens.mono s e r)
  | _, _, .obj l h r => .obj l (s _ _ h) (Dens.mono s e r)
  | _, _, .drw h => .drw (e _ h)
theorem Dens.mono (s : Sub F G) (e : ∀ a, dr = some a → dr' = some a) : ∀ {vs : List V} {ds : List D}, Dens K W dr F vs ds → Dens K W dr' G vs ds
  | _, _, .nil => .nil
  | _, _, .cons h r => .cons (Den.mono s e h) (Dens.mono s e r)
end
theorem Dens.length : ∀ {vs : List V} {ds : List D}, Dens K W dr F vs ds → vs.length = ds.length
  | _, _, .nil => rfl
  | _, _, .cons _ r => by simp [Dens.length r]
theorem Dens.get : ∀ {vs : List V} {ds : List D} {i : Nat} {d : D}, Dens K W dr F vs ds → ds[i]? = some d → ∃ v, vs[i]? = some v ∧ Den K W dr F v d
  | _, _, _, _, .nil, e => by simp at e
  | _, _, 0, _, .cons h _, e => by simp at e; subst e; exact ⟨_, rfl, h⟩
  | _, _, i + 1, _, .cons _ r, e => by
    obtain ⟨v, h1, h2⟩ := Dens.get (i := i) r (by simpa using e)
    exact ⟨v, by simpa using h1, h2⟩
theorem Dens.get' : ∀ {vs : List V} {ds : List D} {i : Nat} {v : V}, Dens K W dr F vs ds → vs[i]? = some v → ∃ d, ds[i]? = some d ∧ Den K W dr F v d
  | _, _, _, _, .nil, e => by simp at e
  | _, _, 0, _, .cons h _, e => by simp at e; subst e; exact ⟨_, rfl, h⟩
  | _, _, i + 1, _, .cons _ r, e => by
    obtain ⟨v, h1, h2⟩ := Dens.get' (i := i) r (by simpa using e)
    exact ⟨v, by simpa using h1, h2⟩
theorem Dens.append : ∀ {vs us : List V} {ds es : List D}, Dens K W dr F vs ds → Dens K W dr F us es → Dens K W dr F (vs ++ us) (ds ++ es)
  | _, _, _, _, .nil, s => s
  | _, _, _, _, .cons h r, s => .cons h (Dens.append r s)
theorem Dens.take : ∀ {vs : List V} {ds : List D} (n : Nat), Dens K W dr F vs ds → Dens K W dr F (vs.take n) (ds.take n)
  | _, _, 0, _ => .nil
  | _, _, _ + 1, .nil => .nil
  | _, _, n + 1, .cons h r => .cons h (Dens.take n r)
theorem Dens.drop : ∀ {vs : List V} {ds : List D} (n : Nat), Dens K W dr F vs ds → Dens K W dr F (vs.drop n) (ds.drop n)
  | _, _, 0, r => r
  | _, _, _ + 1, .nil => .nil
  | _, _, n + 1, .cons _ r => Dens.drop n r
theorem Dens.rep {vs : List V} {ds : List D} (h : Dens K W dr F vs ds) : ∀ k : Nat, Dens K W dr F (List.replicate k vs).flatten (List.replicate k ds).flatten
  | 0 => .nil
  | k + 1 => by
    rw [List.replicate_succ, List.replicate_succ, List.flatten_cons, List.flatten_cons]
    exact h.append (Dens.rep h k)
theorem Dens.reverse {vs : List V} {ds : List D} (h : Dens K W dr F vs ds) : Dens K W dr F vs.reverse ds.reverse := by
  induction vs generalizing ds with
  | nil => cases h; exact .nil
  | cons v vs ih =>
    cases h with
    | cons h r =>
      rw [List.reverse_cons, List.reverse_cons]
      exact (ih r).append (.cons h .nil)
theorem Dens.set : ∀ {vs : List V} {ds : List D} {v : V} {d : D} (i : Nat), Dens K W dr F vs ds → Den K W dr F v d → Dens K W dr F (vs.set i v) (ds.set i d)
  | _, _, _, _, _, .nil, _ => .nil
  | _, _, _, _, 0, .cons _ r, h => .cons h r
  | _, _, _, _, i + 1, .cons q r, h => .cons q (Dens.set i r h)
end

/-! ### computations -/
/-- what is raised: its class, its fields -/
structure Xc where
  c : Nat
  ks : List Str
  vs : List D
abbrev M (α : Type) := Int → Option (Except Xc α × Int)
def M.pure {α : Type} (a : α) : M α := fun n => some (.ok a, n)
def M.bind {α β : Type} (a : M α) (k : α → M β) : M β := fun n => match a n with
  | none => none
  | some (.ok x, n1) => k x n1
  | some (.error e, n1) => some (.error e, n1)
def M.opt {α : Type} (o : Option α) : M α := fun n => match o with
  | none => none
  | some a => some (.ok a, n)
def M.map {α β : Type} (f : α → β) (a : M α) : M β := M.bind a fun x => M.pure (f x)
theorem M.bind_ok {α β : Type} {a : M α} {k : α → M β} {n n2 : Int} {y : β} (h : M.bind a k n = some (.ok y, n2)) : ∃ x n1, a n = some (.ok x, n1) ∧ k x n1 = some (.ok y, n2) := by
  unfold M.bind at h
  split at h
  · cases h
  · exact ⟨_, _, ‹_›, h⟩
  · cases h
theorem M.opt_ok {α : Type} {o : Option α} {n n1 : Int} {x : α} (h : M.opt o n = some (.ok x, n1)) : o = some x ∧ n1 = n := by
  unfold M.opt at h
  split at h
  · cases h
  · cases h; exact ⟨rfl, rfl⟩
theorem M.pure_ok {α : Type} {a : α} {n n1 : Int} {x : α} (h : M.pure a n = some (.ok x, n1)) : a = x ∧ n1 = n := by
  unfold M.pure at h; cases h; exact ⟨rfl, rfl⟩
theorem M.bind_pure {α β : Type} (a : α) (k : α → M β) : M.bind (M.pure a) k = k a := rfl
theorem M.bind_of {α β : Type} {a : M α} {k : α → M β} {n n1 : Int} {x : α} (h : a n = some (.ok x, n1)) : M.bind a k n = k x n1 := by
  unfold M.bind; rw [h]

inductive Sl where
  | no | val (d : D) | own (d : D)
abbrev Env := List Sl
inductive Out where
  | nx (ρ : Env) | bk (ρ : Env) | ct (ρ : Env) | ret (d : D)
abbrev EX := Env → M D
abbrev EXs := Env → M (List D)
abbrev TX := Env → M Bool
abbrev SX := Env → M Out

/-! ### what a state means -/
/-- a def's run: the draw's cell, the script's address, the heap and the known part at the entry, what may be changed besides -/
structure Fr where
  dr : Option Addr
  sa : Addr
  H0 : Hp
  F0 : Hp
  ex : Addr → Prop

/-- what may be changed, at a -/
def MDen (K : PySem.W.Frag) (W : Wd) (dr : Option Addr) (F H : Hp) (a : Addr) : D → Prop
  | .lst ds => ∃ vs, H a = some (.lst vs) ∧ Dens K W dr F vs ds
  | .dic ks ds => ∃ vs, ks.length = vs.length ∧ H a = some (.dK (ks.zip vs)) ∧ Dens K W dr F vs ds
  | .dit ks ds => ∃ vs, ks.length = vs.length ∧ H a = some (.dT (ks.zip vs)) ∧ Dens K W dr F vs ds
  | .obj c ks ds => ∃ dx vs, ks.length = vs.length ∧ H a = some (.ins (W.cl c) dx (ks.zip vs)) ∧ Dens K W dr F vs ds
  | _ => False
theorem MDen.mono {K : PySem.W.Frag} {W : Wd} {dr : Option Addr} {F F' H H' : Hp} {a : Addr} {d : D} (s : Sub F F') (h : ∀ o, H a = some o → H' a = some o) (m : MDen K W dr F H a d) : MDen K W dr F' H' a d := by
  cases d with
  | lst ds => obtain ⟨vs, e, r⟩ := m; exact ⟨vs, h _ e, r.mono s fun _ z => z⟩
  | dic ks ds => obtain ⟨vs, l, e, r⟩ := m; exact ⟨vs, l, h _ e, r.mono s fun _ z => z⟩
  | dit ks ds => obtain ⟨vs, l, e, r⟩ := m; exact ⟨vs, l, h _ e, r.mono s fun _ z => z⟩
  | obj c ks ds => obtain ⟨dx, vs, l, e, r⟩ := m; exact ⟨dx, vs, l, h _ e, r.mono s fun _ z => z⟩
  | non => exact m.elim
  | bl _ => exact m.elim
  | int _ => exact m.elim
  | str _ => exact m.elim
  | tup _ => exact m.elim
  | drw => exact m.elim
  | scr => exact m.elim
theorem MDen.there {K : PySem.W.Frag} {W : Wd} {dr : Option Addr} {F H : Hp} {a : Addr} {d : D} (m : MDen K W dr F H a d) : ∃ o, H a = some o := by
  cases d with
  | lst ds => obtain ⟨vs, e, r⟩ := m; exact ⟨_, e⟩
  | dic ks ds => obtain ⟨vs, l, e, r⟩ := m; exact ⟨_, e⟩
  | dit ks ds => obtain ⟨vs, l, e, r⟩ := m; exact ⟨_, e⟩
  | obj c ks ds => obtain ⟨dx, vs, l, e, r⟩ := m; exact ⟨_, e⟩
  | non => exact m.elim
  | bl _ => exact m.elim
  | int _ => exact m.elim
  | str _ => exact m.elim
  | tup _ => exact m.elim
  | drw => exact m.elim
  | scr => exact m.elim

/-- no code object's table; a table or something else that stands aside -/
def NT (o : HO) : Prop := ∀ ps, o ≠ .tbl ps
def Sd (o : HO) : Prop := (∃ ps, o = .tbl ps) ∨ ∃ φ, o = .ext φ
def mask (H : Hp) : Hp := fun a => match H a with
  | some (.tbl _) => none
  | o => o
theorem mask_of {H : Hp} {a : Addr} {o : HO} (h : H a = some o) (n : NT o := by (intro _ z; cases z)) : mask H a = some o := by
  unfold mask
  rw [h]
  cases o <;> first | rfl | exact absurd rfl (n _)
theorem of_mask {H : Hp} {a : Addr} {o : HO} (h : mask H a = some o) : H a = some o ∧ NT o := by
  unfold mask at h
  split at h
  · cases h
  · rename_i x
    refine ⟨h, fun ps e => ?_⟩
    subst e
    exact x ps h
theorem sd_no {H : Hp} {p : Addr} (h : H p = none) : ∀ u, H p = some u → ¬ Sd u := fun u z => by rw [h] at z; cases z
theorem sd_of {H : Hp} {p : Addr} {o : HO} (h : H p = some o) (n : ¬ Sd o := by (rintro (⟨_, z⟩ | ⟨_, z⟩) <;> cases z)) : ∀ u, H p = some u → ¬ Sd u := fun u z => by rw [h] at z; cases z; exact n
theorem tabs_keep {T : List (Addr × Str)} {H H' : Hp} (t : LamX.Tabs T H) (k : ∀ a o, H a = some o → Sd o → H' a = some o) : LamX.Tabs T H' := fun p hp => by
  obtain ⟨ps, h1, h2, h3⟩ := t p hp
  refine ⟨ps, k _ _ h1 (.inl ⟨_, rfl⟩), h2, fun pos cv e => ?_⟩
  obtain ⟨c, e1, e2⟩ := h3 pos cv e
  exact ⟨c, e1, k _ _ e2 (.inr ⟨_, rfl⟩)⟩
theorem MDen.pl {K : PySem.W.Frag} {W : Wd} {dr : Option Addr} {F H : Hp} {a : Addr} {d : D} (m : MDen K W dr F H a d) {o : HO} (h : H a = some o) : NT o ∧ ¬ Sd o := by
  have go : ∀ u : HO, H a = some u → NT u → (∀ φ, u ≠ .ext φ) → NT o ∧ ¬ Sd o := fun u e n x => by
    rw [h] at e
    cases e
    exact ⟨n, fun z => by
      rcases z with ⟨ps, z⟩ | ⟨φ, z⟩
      · exact n _ z
      · exact x _ z⟩
  cases d with
  | lst ds => obtain ⟨vs, e, r⟩ := m; exact go _ e (fun _ z => by cases z) fun _ z => by cases z
  | dic ks ds => obtain ⟨vs, l, e, r⟩ := m; exact go _ e (fun _ z => by cases z) fun _ z => by cases z
  | dit ks ds => obtain ⟨vs, l, e, r⟩ := m; exact go _ e (fun _ z => by cases z) fun _ z => by cases z
  | obj c ks ds => obtain ⟨dx, vs, l, e, r⟩ := m; exact go _ e (fun _ z => by cases z) fun _ z => by cases z
  | non => exact m.elim
  | bl _ => exact m.elim
  | int _ => exact m.elim
  | str _ => exact m.elim
  | tup _ => exact m.elim
  | drw => exact m.elim
  | scr => exact m.elim
structure Core (K : PySem.W.Frag) (W : Wd) (fr : Fr) (F H : Hp) (n : Int) : Prop where
  sub : Sub F H
  base : ∀ a o, fr.H0 a = some o → fr.dr ≠ some a → ¬ fr.ex a → H a = some o
  f0 : Sub fr.F0 F
  new : ∀ a o, fr.H0 a = some o → fr.F0 a = none → F a = none
  there : ∀ a o, fr.H0 a = some o → ∃ o', H a = some o' ∧ NT o'
  draw : ∀ a, fr.dr = some a → F a = none ∧ H a = some (.lst [.ref fr.sa, .int n]) ∧ SqL K F fr.sa (W.ns.map V.int)
  ntF : ∀ a o, F a = some o → NT o
  tabs : LamX.Tabs W.tb H

/-- an instance -/
def isO : D → Bool | .obj _ _ _ => true | _ => false
structure Slots (K : PySem.W.Frag) (W : Wd) (fr : Fr) (F H : Hp) (σ : St) (ρ : Env) (ad : Nat → Addr) : Prop where
  len : σ.length = ρ.length
  val : ∀ (i : Nat) (d : D), ρ[i]? = some (Sl.val d) → ∃ v, σ[i]? = some (some v) ∧ Den K W fr.dr F v d
  own : ∀ (i : Nat) (d : D), ρ[i]? = some (Sl.own d) → σ[i]? = some (some (.ref (ad i))) ∧ F (ad i) = none ∧ fr.dr ≠ some (ad i) ∧ (fr.H0 (ad i) = none ∨ fr.ex (ad i)) ∧ MDen K W fr.dr F H (ad i) d ∧ ((isO d = true ∧ fr.ex (ad i)) ∨ (isO d = false ∧ fr.H0 (ad i) = none))
  inj : ∀ (i j : Nat) (d e : D), ρ[i]? = some (Sl.own d) → ρ[j]? = some (Sl.own e) → ad i = ad j → i = j

structure Rel (K : PySem.W.Frag) (W : Wd) (fr : Fr) (F H : Hp) (σ : St) (ρ : Env) (n : Int) : Prop where
  core : Core K W fr F H n
  slots : ∃ ad, Slots K W fr F H σ ρ ad

section
variable {K : PySem.W.Frag} {W : Wd} {fr : Fr} {F F' H H' : Hp} {σ σ' : St} {ρ ρ' : Env} {n n' : Int}
theorem Core.noF (c : Core K W fr F H n) {p : Addr} (hp : H p = none) : F p = none := by
  cases e : F p with
  | none => rfl
  | some z => rw [c.sub _ _ e] at hp; cases hp
theorem Core.ndr (c : Core K W fr F H n) {p : Addr} (hp : H p = none) : fr.dr ≠ some p := fun e => by
  rw [(c.draw p e).2.1] at hp; cases hp
theorem Core.noH0 (c : Core K W fr F H n) {p : Addr} (hp : H p = none) : fr.H0 p = none := by
  cases e : fr.H0 p with
  | none => rfl
  | some z => obtain ⟨o, h, _⟩ := c.there _ _ e; rw [h] at hp; cases hp
/-- a new object, known from now on (k) or not -/
theorem Core.fresh (c : Core K W fr F H n) {p : Addr} {o : HO} (hp : H p = none) (ho : NT o := by (intro _ h; cases h)) : Core K W fr (upd F p o) (upd H p o) n where
  sub := fun a u h => by
    by_cases e : a = p
    · subst e; rw [upd_same] at h ⊢; exact h
    · rw [upd_ne e] at h ⊢; exact c.sub _ _ h
  base := fun a u h1 h2 h3 => by
    have h := c.base a u h1 h2 h3
    rw [upd_ne (ne_of_none h hp)]; exact h
  f0 := c.f0.trans (c.sub.new hp)
  new := fun a u h1 h2 => by
    have e : a ≠ p := ne_of_none h1 (c.noH0 hp)
    rw [upd_ne e]; exact c.new a u h1 h2
  there := fun a u h => by
    obtain ⟨o', q, nt⟩ := c.there a u h
    exact ⟨o', by rw [upd_ne (ne_of_none q hp)]; exact q, nt⟩
  draw := fun a e => by
    obtain ⟨h1, h2, h3⟩ := c.draw a e
    have q : a ≠ p := ne_of_none h2 hp
    exact ⟨by rw [upd_ne q]; exact h1, by rw [upd_ne q]; exact h2, (c.sub.new hp).sqL h3⟩
  ntF := fun a u h => by
    by_cases e : a = p
    · subst e; rw [upd_same] at h; cases h; exact ho
    · rw [upd_ne e] at h; exact c.ntF a u h
  tabs := tabs_keep c.tabs fun a u h _ => by rw [upd_ne (ne_of_none h hp)]; exact h
/-- a new object, not known -/
theorem Core.fresh' (c : Core K W fr F H n) {p : Addr} {o : HO} (hp : H p = none) : Core K W fr F (upd H p o) n where
  sub := fun a u h => by
    have q := c.sub _ _ h
    rw [upd_ne (ne_of_none q hp)]; exact q
  base := fun a u h1 h2 h3 => by
    have h := c.base a u h1 h2 h3
    rw [upd_ne (ne_of_none h hp)]; exact h
  f0 := c.f0
  new := c.new
  there := fun a u h => by
    obtain ⟨o', q, nt⟩ := c.there a u h
    exact ⟨o', by rw [upd_ne (ne_of_none q hp)]; exact q, nt⟩
  draw := fun a e => by
    obtain ⟨h1, h2, h3⟩ := c.draw a e
    have q : a ≠ p := ne_of_none h2 hp
    exact ⟨h1, by rw [upd_ne q]; exact h2, h3⟩
  ntF := c.ntF
  tabs := tabs_keep c.tabs fun a u h _ => by rw [upd_ne (ne_of_none h hp)]; exact h
/-- the run that begins where another one stands -/
def Fr.at (fr : Fr) (F H : Hp) : Fr := ⟨fr.dr, fr.sa, mask H, F, fun _ => False⟩
theorem Core.at (c : Core K W fr F H n) : Core K W (fr.at F H) F H n := ⟨c.sub, fun _ _ h _ _ => (of_mask h).1, Sub.refl _, fun _ _ _ h => h, fun _ o h => ⟨o, of_mask h⟩, c.draw, c.ntF, c.tabs⟩
theorem Core.back (c : Core K W fr F H n) (d : Core K W (fr.at F H) F' H' n') : Core K W fr F' H' n' where
  sub := d.sub
  base := fun a o h1 h2 h3 => by
    have h := c.base a o h1 h2 h3
    obtain ⟨o', q, nt⟩ := c.there a o h1
    rw [h] at q; cases q
    exact d.base a o (mask_of h nt) h2 fun z => z
  f0 := c.f0.trans d.f0
  new := fun a o h1 h2 => by
    obtain ⟨o', q, nt⟩ := c.there a o h1
    exact d.new a o' (mask_of q nt) (c.new a o h1 h2)
  there := fun a o h => by
    obtain ⟨o', q, nt⟩ := c.there a o h
    exact d.there a o' (mask_of q nt)
  draw := d.draw
  ntF := d.ntF
  tabs := d.tabs
/-- the slots stand while what they lean on stands -/
theorem Slots.keep {ad : Nat → Addr} (s : Slots K W fr F H σ ρ ad) (c : Core K W fr F H n) (f : Sub F F') (h : ∀ a o, H a = some o → NT o → fr.dr ≠ some a → H' a = some o) (g : ∀ a o, H a = some o → NT o → F a = none → F' a = none) : Slots K W fr F' H' σ ρ ad where
  len := s.len
  val := fun i d e => by
    obtain ⟨v, h1, h2⟩ := s.val i d e
    exact ⟨v, h1, h2.mono f fun _ z => z⟩
  own := fun i d e => by
    obtain ⟨h1, h2, h3, h4, h5, h6⟩ := s.own i d e
    obtain ⟨o, q⟩ := h5.there
    exact ⟨h1, g _ _ q (h5.pl q).1 h2, h3, h4, h5.mono f fun o z => h _ o z (h5.pl z).1 h3, h6⟩
  inj := s.inj
theorem Rel.keep (r : Rel K W fr F H σ ρ n) (c : Core K W fr F' H' n') (f : Sub F F') (h : ∀ a o, H a = some o → NT o → fr.dr ≠ some a → H' a = some o) (g : ∀ a o, H a = some o → NT o → F a = none → F' a = none) : Rel K W fr F' H' σ ρ n' := by
  obtain ⟨ad, s⟩ := r.slots
  exact ⟨c, ad, s.keep r.core f h g⟩
theorem Rel.fresh (r : Rel K W fr F H σ ρ n) {p : Addr} {o : HO} (hp : H p = none) (ho : NT o := by (intro _ h; cases h)) : Rel K W fr (upd F p o) (upd H p o) σ ρ n :=
  r.keep (r.core.fresh hp ho) (r.core.sub.new hp) (fun a u h _ _ => by rw [upd_ne (ne_of_none h hp)]; exact h) fun a u h _ z => by rw [upd_ne (ne_of_none h hp)]; exact z
/-- behind a run that began here -/
theorem Rel.back (r : Rel K W fr F H σ ρ n) (d : Core K W (fr.at F H) F' H' n') : Rel K W fr F' H' σ ρ n' :=
  r.keep (r.core.back d) d.f0 (fun a o h nt z => d.base a o (mask_of h nt) z fun q => q) fun a o h nt z => d.new a o (mask_of h nt) z
end

/-! ### the judgements -/
theorem M.bind_err {α β : Type} {a : M α} {k : α → M β} {n n2 : Int} {z : Xc} (h : M.bind a k n = some (.error z, n2)) : a n = some (.error z, n2) ∨ ∃ x n1, a n = some (.ok x, n1) ∧ k x n1 = some (.error z, n2) := by
  unfold M.bind at h
  split at h
  · cases h
  · exact .inr ⟨_, _, ‹_›, h⟩
  · cases h; exact .inl ‹_›
theorem M.opt_err {α : Type} {o : Option α} {n n1 : Int} {z : Xc} (h : M.opt o n = some (.error z, n1)) : False := by
  unfold M.opt at h
  split at h <;> cases h
theorem M.pure_err {α : Type} {a : α} {n n1 : Int} {z : Xc} (h : M.pure a n = some (.error z, n1)) : False := by
  unfold M.pure at h; cases h
theorem M.bind_any {α β : Type} {a : M α} {k : α → M β} {n n2 : Int} {r : Except Xc β} (h : M.bind a k n = some (r, n2)) : (∃ z, a n = some (.error z, n2) ∧ r = .error z) ∨ ∃ x n1, a n = some (.ok x, n1) ∧ k x n1 = some (r, n2) := by
  unfold M.bind at h
  split at h
  · cases h
  · exact .inr ⟨_, _, ‹_›, h⟩
  · cases h; exact .inl ⟨_, ‹_›, rfl⟩
theorem M.pure_any {α : Type} {a : α} {n n1 : Int} {r : Except Xc α} (h : M.pure a n = some (r, n1)) : Except.ok a = r ∧ n1 = n := by
  unfold M.pure at h; cases h; exact ⟨rfl, rfl⟩
theorem M.opt_any {α : Type} {o : Option α} {n n1 : Int} {r : Except Xc α} (h : M.opt o n = some (r, n1)) : ∃ x, o = some x := by
  unfold M.opt at h
  split at h
  · cases h
  · exact ⟨_, rfl⟩
/-- what must not raise -/
def M.calm {α : Type} (a : M α) : M α := fun n => match a n with
  | some (.ok x, n1) => some (.ok x, n1)
  | _ => none
theorem M.calm_ok {α : Type} {a : M α} {n n1 : Int} {x : α} (h : M.calm a n = some (.ok x, n1)) : a n = some (.ok x, n1) := by
  unfold M.calm at h
  split at h
  · cases h; assumption
  · cases h
theorem M.calm_err {α : Type} {a : M α} {n n1 : Int} {z : Xc} (h : M.calm a n = some (.error z, n1)) : False := by
  unfold M.calm at h
  split at h <;> cases h
/-- an exception in the air that X takes -/
def Acc (X : Cx) (cls : Value) (d : Option Addr) (σ : St) (H : Hp) : Prop := Takes X fun c d' σ' H' => c = cls ∧ d' = d ∧ σ' = σ ∧ H' = H
theorem takesAcc {X : Cx} : Takes X (Acc X) := fun u s' ⟨a, B, sI, pins, σ, H, cls, d, e, I, nb, up, sky, na, os, ag, w⟩ =>
  w u s' ⟨a, B, sI, pins, σ, H, cls, d, e, I, nb, up, sky, na, os, ag, rfl, rfl, rfl, rfl⟩
theorem Acc.of {X : Cx} {Wt : WX} (tk : Takes X Wt) {cls : Value} {d : Option Addr} {σ : St} {H : Hp} (h : Wt cls d σ H) : Acc X cls d σ H := tk.imp fun c d' σ' H' ⟨a, b, c', d''⟩ => by
  subst a b c' d''; exact h
/-- an exception by its class and its fields -/
def XDen (K : PySem.W.Frag) (W : Wd) (dr : Option Addr) (F H : Hp) (z : Xc) (cls : Value) (d : Option Addr) : Prop :=
  cls = .ref (W.cl z.c) ∧ ((d = none ∧ z.ks = [] ∧ z.vs = []) ∨ ∃ a us, d = some a ∧ z.ks ≠ [] ∧ H a = some (.xd (z.ks.zip us)) ∧ z.ks.length = us.length ∧ Dens K W dr F us z.vs)
@[reducible] def Res {α : Type} (ok : α → Prop) (er : Xc → Prop) : Except Xc α → Prop
  | .ok x => ok x
  | .error z => er z
/-- what is wanted of an exception out of an expression; out of a statement -/
def KX (X : Cx) (W : Wd) (fr : Fr) (F : Hp) (σ : St) (ρ : Env) (n : Int) (z : Xc) : Prop := ∀ F' H' cls d, Rel X.K W fr F' H' σ ρ n → Sub F F' → XDen X.K W fr.dr F' H' z cls d → Acc X cls d σ H'
def KS (X : Cx) (W : Wd) (fr : Fr) (F : Hp) (n : Int) (z : Xc) : Prop := ∀ F' H' σ' cls d, Core X.K W fr F' H' n → Sub F F' → XDen X.K W fr.dr F' H' z cls d → Acc X cls d σ' H'
theorem KX.mono {X : Cx} {W : Wd} {fr : Fr} {F F1 : Hp} {σ : St} {ρ : Env} {n : Int} {z : Xc} (k : KX X W fr F σ ρ n z) (s : Sub F F1) : KX X W fr F1 σ ρ n z := fun F' H' cls d R s' x => k F' H' cls d R (s.trans s') x
theorem KS.mono {X : Cx} {W : Wd} {fr : Fr} {F F1 : Hp} {n : Int} {z : Xc} (k : KS X W fr F n z) (s : Sub F F1) : KS X W fr F1 n z := fun F' H' σ cls d R s' x => k F' H' σ cls d R (s.trans s') x
theorem KS.x {X : Cx} {W : Wd} {fr : Fr} {F : Hp} {σ : St} {ρ : Env} {n : Int} {z : Xc} (k : KS X W fr F n z) : KX X W fr F σ ρ n z := fun F' H' cls d R s' x => k F' H' σ cls d R.core s' x
def tD (X : Cx) (W : Wd) (f : EX) : TE := fun σ H Q => ∃ fr F ρ n r n', Rel X.K W fr F H σ ρ n ∧ f ρ n = some (r, n') ∧
  Res (fun d => ∀ F' H' v, Rel X.K W fr F' H' σ ρ n' → Sub F F' → Den X.K W fr.dr F' v d → Q v H') (KX X W fr F σ ρ n') r
def tDs (X : Cx) (W : Wd) (f : EXs) : TA := fun σ H Q => ∃ fr F ρ n r n', Rel X.K W fr F H σ ρ n ∧ f ρ n = some (r, n') ∧
  Res (fun ds => ∀ F' H' vs, Rel X.K W fr F' H' σ ρ n' → Sub F F' → Dens X.K W fr.dr F' vs ds → Q vs H') (KX X W fr F σ ρ n') r
def tT (X : Cx) (W : Wd) (f : TX) : TT := fun σ H Q => ∃ fr F ρ n r n', Rel X.K W fr F H σ ρ n ∧ f ρ n = some (r, n') ∧
  Res (fun b => ∀ F' H', Rel X.K W fr F' H' σ ρ n' → Sub F F' → Q b H') (KX X W fr F σ ρ n') r
def OutK (K : PySem.W.Frag) (W : Wd) (fr : Fr) (F : Hp) (E : Ends) : Out → Int → Prop
  | .nx ρ, n => ∀ F' H' σ', Rel K W fr F' H' σ' ρ n → Sub F F' → E.nx σ' H'
  | .bk ρ, n => ∀ F' H' σ', Rel K W fr F' H' σ' ρ n → Sub F F' → E.bk σ' H'
  | .ct ρ, n => ∀ F' H' σ', Rel K W fr F' H' σ' ρ n → Sub F F' → E.ct σ' H'
  | .ret d, n => ∀ F' H' v, Core K W fr F' H' n → Sub F F' → Den K W fr.dr F' v d → E.rt v H'
def tS (X : Cx) (W : Wd) (g : SX) : TS := fun E σ H => ∃ fr F ρ n r n', Rel X.K W fr F H σ ρ n ∧ g ρ n = some (r, n') ∧ Res (fun o => OutK X.K W fr F E o n') (KS X W fr F n') r
theorem OutK.mono {K : PySem.W.Frag} {W : Wd} {fr : Fr} {F F1 : Hp} {E : Ends} (s : Sub F F1) : ∀ {o : Out} {n : Int}, OutK K W fr F E o n → OutK K W fr F1 E o n
  | .nx _, _, k => fun F' H' σ' r q => k F' H' σ' r (s.trans q)
  | .bk _, _, k => fun F' H' σ' r q => k F' H' σ' r (s.trans q)
  | .ct _, _, k => fun F' H' σ' r q => k F' H' σ' r (s.trans q)
  | .ret _, _, k => fun F' H' v c q => k F' H' v c (s.trans q)
/-- a statement's ends, from further on -/
theorem resS_mono {X : Cx} {W : Wd} {fr : Fr} {F F1 : Hp} {E : Ends} {n : Int} (s : Sub F F1) : ∀ {r : Except Xc Out}, Res (fun o => OutK X.K W fr F E o n) (KS X W fr F n) r → Res (fun o => OutK X.K W fr F1 E o n) (KS X W fr F1 n) r
  | .ok _, k => OutK.mono s k
  | .error _, k => KS.mono k s

abbrev PD (X : Cx) (W : Wd) (e : Expr) (f : EX) : Prop := PE X e (tD X W f)
abbrev PDs (X : Cx) (W : Wd) (es : List Expr) (f : EXs) : Prop := PA X es (tDs X W f)
abbrev PDT (X : Cx) (W : Wd) (e : Expr) (f : TX) : Prop := PT X e (tT X W f)
abbrev PDW (X : Cx) (W : Wd) (e : Expr) (f : TX) : Prop := PW X e (tT X W f)
abbrev PDS (X : Cx) (W : Wd) (s : Stmt) (g : SX) : Prop := PS X s (tS X W g)
abbrev PDSs (X : Cx) (W : Wd) (s : List Stmt) (g : SX) : Prop := PSs X s (tS X W g)
section
variable {X : Cx} {W : Wd} {fr : Fr} {F H : Hp} {σ : St} {ρ : Env} {n n' : Int} {z : Xc} {β : Type}
/-- an error of a part, or of what follows it -/
theorem Rel.dE {f : EX} {g : D → M β} {Q : VK} (R : Rel X.K W fr F H σ ρ n) (e : M.bind (f ρ) g n = some (.error z, n')) (k : KX X W fr F σ ρ n' z) (go : ∀ x n1 F1 H1 v, f ρ n = some (.ok x, n1) → g x n1 = some (.error z, n') → Rel X.K W fr F1 H1 σ ρ n1 → Sub F F1 → Den X.K W fr.dr F1 v x → Q v H1) : tD X W f σ H Q := by
  rcases M.bind_err e with e1 | ⟨x, n1, e1, h⟩
  · exact ⟨fr, F, ρ, n, .error z, n', R, e1, k⟩
  · exact ⟨fr, F, ρ, n, .ok x, n1, R, e1, fun F1 H1 v R1 s1 d1 => go x n1 F1 H1 v e1 h R1 s1 d1⟩
theorem Rel.dsE {f : EXs} {g : List D → M β} {Q : List V → Hp → Prop} (R : Rel X.K W fr F H σ ρ n) (e : M.bind (f ρ) g n = some (.error z, n')) (k : KX X W fr F σ ρ n' z) (go : ∀ x n1 F1 H1 v, f ρ n = some (.ok x, n1) → g x n1 = some (.error z, n') → Rel X.K W fr F1 H1 σ ρ n1 → Sub F F1 → Dens X.K W fr.dr F1 v x → Q v H1) : tDs X W f σ H Q := by
  rcases M.bind_err e with e1 | ⟨x, n1, e1, h⟩
  · exact ⟨fr, F, ρ, n, .error z, n', R, e1, k⟩
  · exact ⟨fr, F, ρ, n, .ok x, n1, R, e1, fun F1 H1 v R1 s1 d1 => go x n1 F1 H1 v e1 h R1 s1 d1⟩
theorem Rel.tE {f : TX} {g : Bool → M β} {Q : Bool → Hp → Prop} (R : Rel X.K W fr F H σ ρ n) (e : M.bind (f ρ) g n = some (.error z, n')) (k : KX X W fr F σ ρ n' z) (go : ∀ x n1 F1 H1, f ρ n = some (.ok x, n1) → g x n1 = some (.error z, n') → Rel X.K W fr F1 H1 σ ρ n1 → Sub F F1 → Q x H1) : tT X W f σ H Q := by
  rcases M.bind_err e with e1 | ⟨x, n1, e1, h⟩
  · exact ⟨fr, F, ρ, n, .error z, n', R, e1, k⟩
  · exact ⟨fr, F, ρ, n, .ok x, n1, R, e1, fun F1 H1 R1 s1 => go x n1 F1 H1 e1 h R1 s1⟩
theorem Rel.sE {f : SX} {g : Out → M β} {E : Ends} (R : Rel X.K W fr F H σ ρ n) (e : M.bind (f ρ) g n = some (.error z, n')) (k : KS X W fr F n' z) (go : ∀ x n1, f ρ n = some (.ok x, n1) → g x n1 = some (.error z, n') → OutK X.K W fr F E x n1) : tS X W f E σ H := by
  rcases M.bind_err e with e1 | ⟨x, n1, e1, h⟩
  · exact ⟨fr, F, ρ, n, .error z, n', R, e1, k⟩
  · exact ⟨fr, F, ρ, n, .ok x, n1, R, e1, go x n1 e1 h⟩
/-- one part, then an operator -/
theorem Rel.dE1 {α : Type} {f : EX} {g : D → Option α} {Q : VK} (R : Rel X.K W fr F H σ ρ n) (e : M.bind (f ρ) (fun x => M.opt (g x)) n = some (.error z, n')) (k : KX X W fr F σ ρ n' z) : tD X W f σ H Q := R.dE e k fun _ _ _ _ _ _ h _ _ _ => (M.opt_err h).elim
theorem Rel.dsE1 {α : Type} {f : EXs} {g : List D → Option α} {Q : List V → Hp → Prop} (R : Rel X.K W fr F H σ ρ n) (e : M.bind (f ρ) (fun x => M.opt (g x)) n = some (.error z, n')) (k : KX X W fr F σ ρ n' z) : tDs X W f σ H Q := R.dsE e k fun _ _ _ _ _ _ h _ _ _ => (M.opt_err h).elim
end
theorem imp_E {X : Cx} {e : Expr} {t t' : TE} (h : PE X e t) (k : ∀ σ H Q, t' σ H Q → t σ H Q) : PE X e t' := ⟨fun pins s σ H Q I q => h.run pins s σ H Q I (k σ H Q q)⟩
theorem imp_T {X : Cx} {e : Expr} {t t' : TT} (h : PT X e t) (k : ∀ σ H Q, t' σ H Q → t σ H Q) : PT X e t' := ⟨fun pins s σ H Q I q => h.run pins s σ H Q I (k σ H Q q)⟩
theorem imp_W {X : Cx} {e : Expr} {t t' : TT} (h : PW X e t) (k : ∀ σ H Q, t' σ H Q → t σ H Q) : PW X e t' := ⟨fun w pins s σ H Q I q => h.run w pins s σ H Q I (k σ H Q q)⟩
theorem imp_A {X : Cx} {e : List Expr} {t t' : TA} (h : PA X e t) (k : ∀ σ H Q, t' σ H Q → t σ H Q) : PA X e t' := ⟨fun p pins s σ H Q I q => h.run p pins s σ H Q I (k σ H Q q)⟩
theorem imp_S {X : Cx} {e : Stmt} {t t' : TS} (h : PS X e t) (k : ∀ E σ H, t' E σ H → t E σ H) : PS X e t' := ⟨fun pins s σ H E I q => h.run pins s σ H E I (k E σ H q)⟩
theorem imp_Ss {X : Cx} {e : List Stmt} {t t' : TS} (h : PSs X e t) (k : ∀ E σ H, t' E σ H → t E σ H) : PSs X e t' := ⟨fun pins s σ H E I q => h.run pins s σ H E I (k E σ H q)⟩
end DL
end

section
set_option Elab.async false
set_option linter.all false
set_option autoImplicit false
set_option maxRecDepth 100000
namespace DL
open PySem PySem.Spec L2
section
variable {X : Cx} {W : Wd}

/-! ### names, constants -/
def eVar (i : Nat) : EX := fun ρ => M.opt (match ρ[i]? with | some (Sl.val d) => some d | _ => none)
theorem eVar_some {i : Nat} {ρ : Env} {n n1 : Int} {d : D} (h : eVar i ρ n = some (.ok d, n1)) : ρ[i]? = some (.val d) ∧ n1 = n := by
  unfold eVar at h
  obtain ⟨h1, h2⟩ := M.opt_ok h
  split at h1
  · cases h1; exact ⟨‹_›, h2⟩
  · cases h1
theorem d_var {e : Expr} {i : Nat} (h : PE X e (tVar i)) : PD X W e (eVar i) := imp_E h fun σ H Q ⟨fr, F, ρ, n, r, n', R, e, k⟩ => by
  rcases r with z | d
  · exact (M.opt_err e).elim
  obtain ⟨h1, h2⟩ := eVar_some e
  subst h2
  obtain ⟨ad, s⟩ := R.slots
  obtain ⟨v, h3, h4⟩ := s.val i d h1
  exact ⟨v, h3, k F H v R (Sub.refl _) h4⟩
theorem dv (i : Nat) {x : Str} {pos : Pos} (hN : X.N[i]? = some x := by rfl) (hv : Vis X.env.scope x := by first | exact Or.inl rfl | exact Or.inr (Or.inl rfl) | exact Or.inr (Or.inr rfl)) (hd : (x == ("__debug__" : Str)) = false := by decide)
    (hcd : (x == ("__classdict__" : Str)) = false := by decide) : PD X W (.Name x pos) (eVar i) := d_var (pe_var hN hv hd hcd)
def eC (d : D) : EX := fun _ => M.pure d
theorem d_con {e : Expr} {v : V} {d : D} (h : PE X e (tC v)) (hd : ∀ K W dr F, Den K W dr F v d) : PD X W e (eC d) := imp_E h fun σ H Q ⟨fr, F, ρ, n, r, n', R, e, k⟩ => by
  rcases r with z | d'
  · exact (M.pure_err e).elim
  obtain ⟨h1, h2⟩ := M.pure_ok e
  subst h1 h2
  exact k F H v R (Sub.refl _) (hd _ _ _ _)
theorem d_int {i j pos} : PD X W (.Constant (.int i) j pos) (eC (.int i)) := d_con pe_int fun _ _ _ _ => .int i
theorem d_bl {i j pos} : PD X W (.Constant (.bool i) j pos) (eC (.bl i)) := d_con pe_bl fun _ _ _ _ => .bl i
theorem d_non {j pos} : PD X W (.Constant .none j pos) (eC .non) := d_con pe_non fun _ _ _ _ => .non
theorem d_str {x j pos} : PD X W (.Constant (.str x) j pos) (eC (.str x)) := d_con pe_str fun _ _ _ _ => .str x
/-- a module's constant that is an int, a text, a bool -/
theorem d_glob {x : Str} {v : V} {u : Value} {pos : Pos} {d : D} (hg : Gl X x) (hm : X.mg x = some u) (r : RelV v u) (hd : ∀ K W dr F, Den K W dr F v d) (hx : (x == ("__debug__" : Str)) = false := by decide) : PD X W (.Name x pos) (eC d) := d_con (pe_glob hg hm r hx) hd

/-! ### lists of expressions -/
def eNil : EXs := fun _ => M.pure []
def eCons (f : EX) (g : EXs) : EXs := fun ρ => M.bind (f ρ) fun d => M.bind (g ρ) fun ds => M.pure (d :: ds)
theorem ds_nil : PDs X W [] eNil := imp_A pa_nil fun σ H Q ⟨fr, F, ρ, n, r, n', R, e, k⟩ => by
  rcases r with z | d
  · exact (M.pure_err e).elim
  obtain ⟨h1, h2⟩ := M.pure_ok e
  subst h1 h2
  exact k F H [] R (Sub.refl _) .nil
theorem ds_cons {e : Expr} {es : List Expr} {f : EX} {g : EXs} (he : PD X W e f) (hr : PDs X W es g) (hs : starEach (e :: es) X.env = (false, eval e X.env) :: starEach es X.env := by rfl) : PDs X W (e :: es) (eCons f g) :=
  imp_A (pa_cons he hr hs) fun σ H Q ⟨fr, F, ρ, n, r, n', R, e, k⟩ => by
    rcases r with z | ds
    · exact R.dE e k fun d n1 F1 H1 v e1 h R1 s1 d1 => R1.dsE h (k.mono s1) fun _ _ _ _ _ _ h _ _ _ => (M.pure_err h).elim
    obtain ⟨d, n1, h1, h⟩ := M.bind_ok e
    obtain ⟨ds', n2, h2, h⟩ := M.bind_ok h
    obtain ⟨h3, h4⟩ := M.pure_ok h
    subst h3 h4
    exact ⟨fr, F, ρ, n, .ok d, n1, R, h1, fun F1 H1 v R1 s1 d1 => ⟨fr, F1, ρ, n1, .ok ds', _, R1, h2, fun F2 H2 vs R2 s2 d2 => k F2 H2 _ R2 (s1.trans s2) (.cons (d1.mono s2 fun _ z => z) d2)⟩⟩

/-! ### displays -/
theorem Core.freshTup {K : PySem.W.Frag} {fr : Fr} {F H : Hp} {n : Int} {vs : List V} {ds : List D} {p : Addr} (h : Dens K W fr.dr F vs ds) (hp : F p = none) : Den K W fr.dr (upd F p (.tup vs)) (.ref p) (.tup ds) :=
  .tup (SqT.of upd_same) (h.mono (fun a u q => by rw [upd_ne (ne_of_none q hp)]; exact q) fun _ z => z)
def gz (ds : List D) : Bool := decide (ds.length ≤ sizeLine)
def mkTup (ds : List D) : Option D := if gz ds then some (.tup ds) else none
def mkLst (ds : List D) : Option D := if gz ds then some (.lst ds) else none
theorem mkTup_ok {ds : List D} {d : D} (h : mkTup ds = some d) : d = .tup ds ∧ ds.length ≤ sizeLine := by
  unfold mkTup at h
  split at h
  · rename_i q; cases h; exact ⟨rfl, of_decide_eq_true q⟩
  · cases h
theorem mkLst_ok {ds : List D} {d : D} (h : mkLst ds = some d) : d = .lst ds ∧ ds.length ≤ sizeLine := by
  unfold mkLst at h
  split at h
  · rename_i q; cases h; exact ⟨rfl, of_decide_eq_true q⟩
  · cases h
def eTup (f : EXs) : EX := fun ρ => M.bind (f ρ) fun ds => M.opt (mkTup ds)
def eLst (f : EXs) : EX := fun ρ => M.bind (f ρ) fun ds => M.opt (mkLst ds)
/-- a new tuple, a new list, handed on as known -/
theorem put_tup {K : PySem.W.Frag} {fr : Fr} {F H : Hp} {σ : St} {ρ : Env} {n : Int} {vs : List V} {ds : List D} {Q : VK} (R : Rel K W fr F H σ ρ n) (hd : Dens K W fr.dr F vs ds)
    (k : ∀ F' H' v, Rel K W fr F' H' σ ρ n → Sub F F' → Den K W fr.dr F' v (.tup ds) → Q v H') : ∀ p, H p = none → Q (.ref p) (upd H p (.tup vs)) := fun p hp =>
  k _ _ _ (R.fresh hp) (R.core.sub.new hp) (.tup (SqT.of upd_same) (hd.mono (R.core.sub.new hp) fun _ z => z))
theorem put_lst {K : PySem.W.Frag} {fr : Fr} {F H : Hp} {σ : St} {ρ : Env} {n : Int} {vs : List V} {ds : List D} {Q : VK} (R : Rel K W fr F H σ ρ n) (hd : Dens K W fr.dr F vs ds)
    (k : ∀ F' H' v, Rel K W fr F' H' σ ρ n → Sub F F' → Den K W fr.dr F' v (.lst ds) → Q v H') : ∀ p, H p = none → Q (.ref p) (upd H p (.lst vs)) := fun p hp =>
  k _ _ _ (R.fresh hp) (R.core.sub.new hp) (.lst upd_same (hd.mono (R.core.sub.new hp) fun _ z => z))
theorem d_tup {es : List Expr} {f : EXs} {x1 pos} (h : PDs X W es f) : PD X W (.Tuple es x1 pos) (eTup f) := imp_E (pe_tup h) fun σ H Q ⟨fr, F, ρ, n, r, n', R, e, k⟩ => by
  rcases r with z | d
  · exact R.dsE1 e k
  obtain ⟨ds, n1, h1, h⟩ := M.bind_ok e
  obtain ⟨h2, h3⟩ := M.opt_ok h
  obtain ⟨h4, h5⟩ := mkTup_ok h2
  subst h3 h4
  exact ⟨fr, F, ρ, n, .ok ds, _, R, h1, fun F1 H1 vs R1 s1 d1 => ⟨by rw [d1.length]; exact h5, put_tup R1 d1 fun F2 H2 v R2 s2 d2 => k F2 H2 v R2 (s1.trans s2) d2⟩⟩
theorem d_lst {es : List Expr} {f : EXs} {pos} (h : PDs X W es f) : PD X W (.List es pos) (eLst f) := imp_E (pe_lst h) fun σ H Q ⟨fr, F, ρ, n, r, n', R, e, k⟩ => by
  rcases r with z | d
  · exact R.dsE1 e k
  obtain ⟨ds, n1, h1, h⟩ := M.bind_ok e
  obtain ⟨h2, h3⟩ := M.opt_ok h
  obtain ⟨h4, h5⟩ := mkLst_ok h2
  subst h3 h4
  exact ⟨fr, F, ρ, n, .ok ds, _, R, h1, fun F1 H1 vs R1 s1 d1 => ⟨by rw [d1.length]; exact h5, put_lst R1 d1 fun F2 H2 v R2 s2 d2 => k F2 H2 v R2 (s1.trans s2) d2⟩⟩

/-! ### operators -/
def e2 (op : D → D → Option D) (fa fb : EX) : EX := fun ρ => M.bind (fa ρ) fun x => M.bind (fb ρ) fun y => M.opt (op x y)
/-- an operator over data -/
def Op2 (K : PySem.W.Frag) (W : Wd) (r : R2) (op : D → D → Option D) : Prop := ∀ (fr : Fr) (F H : Hp) (σ : St) (ρ : Env) (n : Int) (x y d : D) (v u : V) (Q : VK), Rel K W fr F H σ ρ n → Den K W fr.dr F v x → Den K W fr.dr F u y → op x y = some d →
  (∀ F' H' w, Rel K W fr F' H' σ ρ n → Sub F F' → Den K W fr.dr F' w d → Q w H') → r v u H Q
theorem d_tOp {r : R2} {op : D → D → Option D} {fa fb : EX} (hd : Op2 X.K W r op) {σ : St} {H : Hp} {Q : VK} (h : tD X W (e2 op fa fb) σ H Q) : tOp r (tD X W fa) (tD X W fb) σ H Q := by
  obtain ⟨fr, F, ρ, n, r, n', R, e, k⟩ := h
  rcases r with z | d
  · exact R.dE e k fun x n1 F1 H1 v e1 h R1 s1 d1 => R1.dE1 h (k.mono s1)
  obtain ⟨x, n1, h1, h⟩ := M.bind_ok e
  obtain ⟨y, n2, h2, h⟩ := M.bind_ok h
  obtain ⟨h3, h4⟩ := M.opt_ok h
  subst h4
  exact ⟨fr, F, ρ, n, .ok x, n1, R, h1, fun F1 H1 v R1 s1 d1 => ⟨fr, F1, ρ, n1, .ok y, _, R1, h2, fun F2 H2 u R2 s2 d2 => hd fr F2 H2 σ ρ _ x y d v u Q R2 (d1.mono s2 fun _ z => z) d2 h3 fun F3 H3 w R3 s3 d3 => k F3 H3 w R3 ((s1.trans s2).trans s3) d3⟩⟩
theorem d_op {a b : Expr} {fa fb : EX} {o : Operator} {r : R2} {op : D → D → Option D} {pos : Pos} (ho : OpR X (binaryOp o) r) (hd : Op2 X.K W r op) (ha : PD X W a fa) (hb : PD X W b fb) : PD X W (.BinOp a o b pos) (e2 op fa fb) := imp_E (pe_op ho ha hb) fun _ _ _ h => d_tOp hd h
theorem d_cmp {a b : Expr} {fa fb : EX} {o : CmpOp} {r : R2} {op : D → D → Option D} {pos : Pos} (ho : OpR X (compareOp o) r) (hd : Op2 X.K W r op) (ha : PD X W a fa) (hb : PD X W b fb) (hm : behindInMarks o b = false) : PD X W (.Compare a [o] [b] pos) (e2 op fa fb) := imp_E (pe_cmpR ho ha hb hm) fun _ _ _ h => d_tOp hd h

def dAdd : D → D → Option D
  | .int a, .int b => some (.int (a + b))
  | .str a, .str b => if a.length + b.length ≤ sizeLine then some (.str (a ++ b)) else none
  | .tup a, .tup b => mkTup (a ++ b)
  | .lst a, .lst b => mkLst (a ++ b)
  | _, _ => none
theorem dens_nil {K : PySem.W.Frag} {dr : Option Addr} {F : Hp} {vs : List V} (h : Dens K W dr F vs []) : vs = [] := by cases h; rfl
theorem dens_ne {K : PySem.W.Frag} {dr : Option Addr} {F : Hp} {vs : List V} {ds : List D} (h : Dens K W dr F vs ds) : vs = [] ↔ ds = [] := by
  cases h <;> simp
abbrev rAddD (K : PySem.W.Frag) : R2 := fun x y H Q => (((rI0 fun i j => .int (i + j)) x y H Q ∨ (∃ i j, x = .str i ∧ y = .str j ∧ i.length + j.length ≤ sizeLine ∧ Q (.str (i ++ j)) H)) ∨ rCatA K x y H Q) ∨ rCat x y H Q
theorem o_add : OpR X (binaryOp .Add) (rAddD X.K) := ((op_add.or op_add_str).or op_catA).or op_cat
theorem q_add {K : PySem.W.Frag} : Op2 K W (rAddD K) dAdd := by
  intro fr F H σ ρ n x y d v u Q R dx dy h k
  unfold dAdd at h
  split at h
  · cases dx; cases dy; cases h
    exact .inl (.inl (.inl ⟨_, _, rfl, rfl, k F H _ R (Sub.refl _) (.int _)⟩))
  · split at h
    · cases dx; cases dy; cases h
      exact .inl (.inl (.inr ⟨_, _, rfl, rfl, ‹_›, k F H _ R (Sub.refl _) (.str _)⟩))
    · cases h
  · obtain ⟨rfl, hz⟩ := mkTup_ok h
    cases dx with
    | tup hx rx =>
      cases dy with
      | tup hy ry =>
        refine .inl (.inr ⟨_, _, _, _, rfl, rfl, R.core.sub.sqT hx, R.core.sub.sqT hy, by rw [rx.length, ry.length, ← List.length_append]; exact hz, fun e => ?_, fun e1 e2 => ?_, fun e1 e2 => ?_⟩)
        · rw [(dens_ne rx).mp e, List.nil_append] at k
          exact k F H _ R (Sub.refl _) (.tup hy ry)
        · rw [(dens_ne ry).mp e2, List.append_nil] at k
          exact k F H _ R (Sub.refl _) (.tup hx rx)
        · exact put_tup R (rx.append ry) k
  · obtain ⟨rfl, hz⟩ := mkLst_ok h
    cases dx with
    | lst hx rx =>
      cases dy with
      | lst hy ry =>
        exact .inr ⟨_, _, _, _, rfl, rfl, R.core.sub _ _ hx, R.core.sub _ _ hy, by rw [rx.length, ry.length, ← List.length_append]; exact hz, put_lst R (rx.append ry) k⟩
  · cases h
theorem d_add {a b : Expr} {fa fb : EX} {pos : Pos} (ha : PD X W a fa) (hb : PD X W b fb) : PD X W (.BinOp a .Add b pos) (e2 dAdd fa fb) := d_op o_add q_add ha hb

/-- an operator of ints -/
def dI (C : Int → Int → Bool) (g : Int → Int → D) : D → D → Option D
  | .int a, .int b => if C a b then some (g a b) else none
  | _, _ => none
theorem q_I {K : PySem.W.Frag} {C : Int → Int → Prop} {D' : Int → Int → Bool} {g : Int → Int → V} {gd : Int → Int → D} (hC : ∀ i j, D' i j = true → C i j) (hg : ∀ K W dr F i j, Den K W dr F (g i j) (gd i j)) : Op2 K W (rI C g) (dI D' gd) := by
  intro fr F H σ ρ n x y d v u Q R dx dy h k
  unfold dI at h
  split at h
  · split at h
    · cases dx; cases dy; cases h
      exact ⟨_, _, rfl, rfl, hC _ _ ‹_›, k F H _ R (Sub.refl _) (hg _ _ _ _ _ _)⟩
    · cases h
  · cases h
theorem q_I0 {K : PySem.W.Frag} {g : Int → Int → V} {gd : Int → Int → D} (hg : ∀ K W dr F i j, Den K W dr F (g i j) (gd i j)) : Op2 K W (rI0 g) (dI (fun _ _ => true) gd) := by
  intro fr F H σ ρ n x y d v u Q R dx dy h k
  unfold dI at h
  split at h
  · cases dx; cases dy; cases h
    exact ⟨_, _, rfl, rfl, k F H _ R (Sub.refl _) (hg _ _ _ _ _ _)⟩
  · cases h
def dSub : D → D → Option D := dI (fun _ _ => true) fun i j => .int (i - j)
def small64 (i : Int) : Bool := decide (-(2 ^ 64) < i) && decide (i < 2 ^ 64)
def dMulI : D → D → Option D := dI (fun i j => small64 i || small64 j) fun i j => .int (i * j)
def dMod : D → D → Option D := dI (fun _ j => decide (0 < j)) fun i j => .int (i % j)
def dDiv : D → D → Option D := dI (fun _ j => decide (0 < j) && decide (j < 1073741824)) fun i j => .int (i / j)
def dPow : D → D → Option D := dI (fun i j => decide (0 ≤ j) && decide (j ≤ 1000000) && decide (i.natAbs < 2 ^ 64)) fun i j => .int (i ^ j.toNat)
theorem d_sub {a b : Expr} {fa fb : EX} {pos : Pos} (ha : PD X W a fa) (hb : PD X W b fb) : PD X W (.BinOp a .Sub b pos) (e2 dSub fa fb) := d_op op_sub (q_I0 fun _ _ _ _ _ _ => .int _) ha hb
theorem small64_ok {i : Int} (h : small64 i = true) : -(2 ^ 64) < i ∧ i < 2 ^ 64 := by
  unfold small64 at h
  simp only [Bool.and_eq_true, decide_eq_true_eq] at h
  exact h
theorem d_mulI {a b : Expr} {fa fb : EX} {pos : Pos} (ha : PD X W a fa) (hb : PD X W b fb) : PD X W (.BinOp a .Mult b pos) (e2 dMulI fa fb) := d_op op_mul (q_I (fun i j h => by
  rw [Bool.or_eq_true] at h
  exact h.imp small64_ok small64_ok) fun _ _ _ _ _ _ => .int _) ha hb
theorem d_mod {a b : Expr} {fa fb : EX} {pos : Pos} (ha : PD X W a fa) (hb : PD X W b fb) : PD X W (.BinOp a .Mod b pos) (e2 dMod fa fb) := d_op op_mod (q_I (fun i j h => of_decide_eq_true h) fun _ _ _ _ _ _ => .int _) ha hb
theorem d_div {a b : Expr} {fa fb : EX} {pos : Pos} (ha : PD X W a fa) (hb : PD X W b fb) : PD X W (.BinOp a .FloorDiv b pos) (e2 dDiv fa fb) := d_op op_fdiv (q_I (fun i j h => by
  simp only [Bool.and_eq_true, decide_eq_true_eq] at h
  exact h) fun _ _ _ _ _ _ => .int _) ha hb
theorem d_pow {a b : Expr} {fa fb : EX} {pos : Pos} (ha : PD X W a fa) (hb : PD X W b fb) : PD X W (.BinOp a .Pow b pos) (e2 dPow fa fb) := d_op op_pow (q_I (fun i j h => by
  simp only [Bool.and_eq_true, decide_eq_true_eq] at h
  exact ⟨h.1.1, h.1.2, h.2⟩) fun _ _ _ _ _ _ => .int _) ha hb

/-! ### comparisons -/
def strLt (a b : Str) : Bool := decide (a.cps.toList < b.cps.toList)
def strLe (a b : Str) : Bool := !decide (b.cps.toList < a.cps.toList)
def dLt : D → D → Option D
  | .int a, .int b => some (.bl (decide (a < b)))
  | .str a, .str b => some (.bl (strLt a b))
  | _, _ => none
theorem d_lt {a b : Expr} {fa fb : EX} {pos : Pos} (ha : PD X W a fa) (hb : PD X W b fb) : PD X W (.Compare a [.Lt] [b] pos) (e2 dLt fa fb) := d_cmp (op_lt.or op_lt_str) (by
  intro fr F H σ ρ n x y d v u Q R dx dy h k
  unfold dLt at h
  split at h
  · cases dx; cases dy; cases h
    exact .inl ⟨_, _, rfl, rfl, k F H _ R (Sub.refl _) (.bl _)⟩
  · cases dx; cases dy; cases h
    exact .inr ⟨_, _, rfl, rfl, k F H _ R (Sub.refl _) (.bl _)⟩
  · cases h) ha hb (nomark _)
def dCI (p : Int → Int → Bool) : D → D → Option D := dI (fun _ _ => true) fun i j => .bl (p i j)
abbrev dLe := dCI fun i j => decide (i ≤ j)
abbrev dGt := dCI fun i j => decide (j < i)
abbrev dGe := dCI fun i j => decide (j ≤ i)
theorem d_le {a b : Expr} {fa fb : EX} {pos : Pos} (ha : PD X W a fa) (hb : PD X W b fb) : PD X W (.Compare a [.LtE] [b] pos) (e2 dLe fa fb) := d_cmp op_le (q_I0 fun _ _ _ _ _ _ => .bl _) ha hb (nomark _)
theorem d_gt {a b : Expr} {fa fb : EX} {pos : Pos} (ha : PD X W a fa) (hb : PD X W b fb) : PD X W (.Compare a [.Gt] [b] pos) (e2 dGt fa fb) := d_cmp op_gt (q_I0 fun _ _ _ _ _ _ => .bl _) ha hb (nomark _)
theorem d_ge {a b : Expr} {fa fb : EX} {pos : Pos} (ha : PD X W a fa) (hb : PD X W b fb) : PD X W (.Compare a [.GtE] [b] pos) (e2 dGe fa fb) := d_cmp op_ge (q_I0 fun _ _ _ _ _ _ => .bl _) ha hb (nomark _)

mutual
def toPy : D → Option PyData
  | .non => some .none
  | .bl b => some (.bool b)
  | .int i => some (.int i)
  | .str x => some (.str x)
  | .tup xs => match toPys xs with | some ys => some (.tuple ys) | none => none
  | .lst xs => match toPys xs with | some ys => some (.list ys) | none => none
  | _ => none
def toPys : List D → Option (List PyData)
  | [] => some []
  | x :: xs => match toPy x, toPys xs with | some y, some ys => some (y :: ys) | _, _ => none
end
mutual
theorem dp_of {K : PySem.W.Frag} {dr : Option Addr} {F H : Hp} (s : Sub F H) : ∀ {v : V} {d : D} {p : PyData}, Den K W dr F v d → toPy d = some p → Dp K H v p
  | _, _, _, .non, h => by unfold toPy at h; cases h; exact .non
  | _, _, _, .bl b, h => by unfold toPy at h; cases h; exact .bl b
  | _, _, _, .int b, h => by unfold toPy at h; cases h; exact .int b
  | _, _, _, .str b, h => by unfold toPy at h; cases h; exact .str b
  | _, _, _, .tup h1 h2, h => by
    unfold toPy at h
    split at h
    · cases h; exact .tup (s.sqT h1) (dps_of s h2 ‹_›)
    · cases h
  | _, _, _, .lst h1 h2, h => by
    unfold toPy at h
    split at h
    · cases h; exact .lst (SqL.of (s _ _ h1)) (dps_of s h2 ‹_›)
    · cases h
  | _, _, _, .scr _, h => by simp [toPy] at h
  | _, _, _, .dic _ _ _, h => by simp [toPy] at h
  | _, _, _, .dit _ _ _, h => by simp [toPy] at h
  | _, _, _, .obj _ _ _, h => by simp [toPy] at h
  | _, _, _, .drw _, h => by simp [toPy] at h
theorem dps_of {K : PySem.W.Frag} {dr : Option Addr} {F H : Hp} (s : Sub F H) : ∀ {vs : List V} {ds : List D} {ps : List PyData}, Dens K W dr F vs ds → toPys ds = some ps → DpAll K H vs ps
  | _, _, _, .nil, h => by unfold toPys at h; cases h; exact .nil
  | _, _, _, .cons h1 h2, h => by
    unfold toPys at h
    split at h
    · cases h; exact .cons (dp_of s h1 ‹_›) (dps_of s h2 ‹_›)
    · cases h
end
def dEqB (x y : D) : Option Bool := match toPy x, toPy y with
  | some a, some b => if SeqAt.shaped a && SeqAt.shaped b then some (PyData.eqv a b) else none
  | _, _ => none
def dEq (x y : D) : Option D := match dEqB x y with | some b => some (.bl b) | none => none
def dNe (x y : D) : Option D := match dEqB x y with | some b => some (.bl (!b)) | none => none
theorem dEqB_ok {x y : D} {b : Bool} (h : dEqB x y = some b) : ∃ p q, toPy x = some p ∧ toPy y = some q ∧ SeqAt.shaped p = true ∧ SeqAt.shaped q = true ∧ b = PyData.eqv p q := by
  unfold dEqB at h
  split at h
  · split at h
    · rename_i a b h1 h2 hs
      rw [Bool.and_eq_true] at hs
      cases h
      exact ⟨_, _, h1, h2, hs.1, hs.2, rfl⟩
    · cases h
  · cases h
theorem d_eq {a b : Expr} {fa fb : EX} {pos : Pos} (hu : X.A.units + 64 < cLine) (ha : PD X W a fa) (hb : PD X W b fb) : PD X W (.Compare a [.Eq] [b] pos) (e2 dEq fa fb) := d_cmp (op_eqD hu) (by
  intro fr F H σ ρ n x y d v u Q R dx dy h k
  unfold dEq at h
  split at h
  · cases h
    obtain ⟨p, q, h1, h2, h3, h4, rfl⟩ := dEqB_ok ‹_›
    exact ⟨p, q, dp_of R.core.sub dx h1, dp_of R.core.sub dy h2, h3, h4, k F H _ R (Sub.refl _) (.bl _)⟩
  · cases h) ha hb (nomark _)
theorem d_ne {a b : Expr} {fa fb : EX} {pos : Pos} (hu : X.A.units + 64 < cLine) (ha : PD X W a fa) (hb : PD X W b fb) : PD X W (.Compare a [.NotEq] [b] pos) (e2 dNe fa fb) := d_cmp (op_neD hu) (by
  intro fr F H σ ρ n x y d v u Q R dx dy h k
  unfold dNe at h
  split at h
  · cases h
    obtain ⟨p, q, h1, h2, h3, h4, rfl⟩ := dEqB_ok ‹_›
    exact ⟨p, q, dp_of R.core.sub dx h1, dp_of R.core.sub dy h2, h3, h4, k F H _ R (Sub.refl _) (.bl _)⟩
  · cases h) ha hb (nomark _)
/-- is None -/
def e1 (op : D → Option D) (fa : EX) : EX := fun ρ => M.bind (fa ρ) fun x => M.opt (op x)
def isNon : D → Bool | .non => true | _ => false
theorem isNon_of {K : PySem.W.Frag} {dr : Option Addr} {F : Hp} {v : V} {d : D} (h : Den K W dr F v d) : decide (v = .non) = isNon d := by
  cases h <;> simp [isNon]
theorem d_isN {a : Expr} {fa : EX} {j p pos} (ha : PD X W a fa) : PD X W (.Compare a [.Is] [.Constant .none j p] pos) (e1 (fun d => some (.bl (isNon d))) fa) := imp_E (pe_cmp (pc_isN ha) rfl) fun σ H Q ⟨fr, F, ρ, n, r, n', R, e, k⟩ => by
  rcases r with z | d
  · exact R.dE1 e k
  obtain ⟨x, n1, h1, h⟩ := M.bind_ok e
  obtain ⟨h2, h3⟩ := M.opt_ok h
  subst h3; cases h2
  exact ⟨fr, F, ρ, n, .ok x, _, R, h1, fun F1 H1 v R1 s1 d1 => by show Q _ H1; rw [isNon_of d1]; exact k F1 H1 _ R1 s1 (.bl _)⟩
theorem d_notN {a : Expr} {fa : EX} {j p pos} (ha : PD X W a fa) : PD X W (.Compare a [.IsNot] [.Constant .none j p] pos) (e1 (fun d => some (.bl (!isNon d))) fa) := imp_E (pe_cmp (pc_notN ha) rfl) fun σ H Q ⟨fr, F, ρ, n, r, n', R, e, k⟩ => by
  rcases r with z | d
  · exact R.dE1 e k
  obtain ⟨x, n1, h1, h⟩ := M.bind_ok e
  obtain ⟨h2, h3⟩ := M.opt_ok h
  subst h3; cases h2
  exact ⟨fr, F, ρ, n, .ok x, _, R, h1, fun F1 H1 v R1 s1 d1 => by show Q _ H1; rw [isNon_of d1]; exact k F1 H1 _ R1 s1 (.bl _)⟩
/-- unary minus -/
def dNeg : D → Option D | .int i => some (.int (-i)) | _ => none
theorem d_neg {a : Expr} {fa : EX} {pos : Pos} (ha : PD X W a fa) : PD X W (.UnaryOp .USub a pos) (e1 dNeg fa) := imp_E (pe_un un_neg ha) fun σ H Q ⟨fr, F, ρ, n, r, n', R, e, k⟩ => by
  rcases r with z | d
  · exact R.dE1 e k
  obtain ⟨x, n1, h1, h⟩ := M.bind_ok e
  obtain ⟨h2, h3⟩ := M.opt_ok h
  subst h3
  refine ⟨fr, F, ρ, n, .ok x, _, R, h1, fun F1 H1 v R1 s1 d1 => ?_⟩
  unfold dNeg at h2
  split at h2
  · cases h2; cases d1
    exact ⟨_, rfl, k F1 H1 _ R1 s1 (.int _)⟩
  · cases h2
end
end DL
end

section
set_option Elab.async false
set_option linter.all false
set_option autoImplicit false
set_option maxRecDepth 100000
namespace DL
open PySem PySem.Spec L2
section
variable {X : Cx} {W : Wd}

/-! ### truth, tests -/
def dTru : D → Option Bool
  | .non => some false
  | .bl b => some b
  | .int i => some (i != 0)
  | .str x => if x.length ≤ sizeLine then some ((x.length : Int) != 0) else none
  | .tup xs => some (!xs.isEmpty)
  | .lst xs => some (!xs.isEmpty)
  | .scr => none
  | .dic _ _ => none
  | .dit _ _ => none
  | .obj _ _ _ => none
  | .drw => none
theorem tru_of {K : PySem.W.Frag} {dr : Option Addr} {F H : Hp} (s : Sub F H) {v : V} {d : D} {b : Bool} (h : Den K W dr F v d) (e : dTru d = some b) : TruV K v H b := by
  cases h with
  | non => cases e; rfl
  | bl b => cases e; rfl
  | int i => cases e; rfl
  | str x =>
    unfold dTru at e
    split at e <;> simp_all [TruV]
  | tup h1 h2 =>
    cases e
    exact .inr (.inl ⟨_, s.sqT h1, by cases h2 <;> rfl⟩)
  | lst h1 h2 =>
    cases e
    exact .inl ⟨_, SqL.of (s _ _ h1), by cases h2 <;> rfl⟩
  | scr _ => cases e
  | dic _ _ _ => cases e
  | dit _ _ _ => cases e
  | obj _ _ _ => cases e
  | drw _ => cases e
/-- the truth of a value, as a test -/
def tTru (f : EX) : TX := fun ρ => M.bind (f ρ) fun d => M.opt (dTru d)
theorem t_tru {a : Expr} {f : EX} (ha : PD X W a f) (he : ∀ whole, isTrue a X.env whole = (do let v ← whole; standAt a.pos; holding [v] (truthy v)) := by intro _; rfl) : PDT X W a (tTru f) := imp_T (pt_truth ha he) fun σ H Q ⟨fr, F, ρ, n, r, n', R, e, k⟩ => by
  rcases r with z | b
  · exact R.dE1 e k
  obtain ⟨x, n1, h1, h⟩ := M.bind_ok e
  obtain ⟨h2, h3⟩ := M.opt_ok h
  subst h3
  exact ⟨fr, F, ρ, n, .ok x, _, R, h1, fun F1 H1 v R1 s1 d1 => ⟨b, tru_of R1.core.sub d1 h2, k F1 H1 R1 s1⟩⟩
/-- a comparison as a test -/
def dBool : D → Option Bool | .bl b => some b | _ => none
def tB (f : EX) : TX := fun ρ => M.bind (f ρ) fun d => M.opt (dBool d)
theorem t_test {t : TE} {f : EX} (h : ∀ σ H Q, tD X W f σ H Q → t σ H Q) {σ : St} {H : Hp} {Q : Bool → Hp → Prop} (h' : tT X W (tB f) σ H Q) : tTest t σ H Q := by
  obtain ⟨fr, F, ρ, n, r, n', R, e, k⟩ := h'
  rcases r with z | b
  · exact h σ H _ (R.dE1 e k)
  obtain ⟨x, n1, h1, h2⟩ := M.bind_ok e
  obtain ⟨h3, h4⟩ := M.opt_ok h2
  subst h4
  refine h σ H _ ⟨fr, F, ρ, n, .ok x, _, R, h1, fun F1 H1 v R1 s1 d1 => ?_⟩
  unfold dBool at h3
  split at h3
  · cases h3; cases d1; exact ⟨_, rfl, k F1 H1 R1 s1⟩
  · cases h3
theorem t_cmp {a b : Expr} {fa fb : EX} {o : CmpOp} {r : R2} {op : D → D → Option D} {pos : Pos} (ho : OpR X (compareOp o) r) (hd : Op2 X.K W r op) (ha : PD X W a fa) (hb : PD X W b fb) (hm : behindInMarks o b = false) : PDT X W (.Compare a [o] [b] pos) (tB (e2 op fa fb)) := imp_T (pt_cmpR ho ha hb hm) fun σ H Q h => t_test (fun _ _ _ => d_tOp hd) h
def eChain (o1 o2 : D → D → Option D) (fa fb fc : EX) : EX := fun ρ => M.bind (fa ρ) fun x => M.bind (fb ρ) fun y => M.bind (M.opt (o1 x y)) fun r => match r with
  | .bl true => M.bind (fc ρ) fun z => M.opt (o2 y z)
  | .bl false => M.pure (.bl false)
  | _ => M.opt none
theorem d_tChain {r r' : R2} {o1 o2 : D → D → Option D} {fa fb fc : EX} (h1 : Op2 X.K W r o1) (h2 : Op2 X.K W r' o2) {σ : St} {H : Hp} {Q : VK} (h : tD X W (eChain o1 o2 fa fb fc) σ H Q) : tChain r r' (tD X W fa) (tD X W fb) (tD X W fc) σ H Q := by
  obtain ⟨fr, F, ρ, n, r, n', R, e, k⟩ := h
  rcases r with z | d
  · refine R.dE e k fun x n1 F1 H1 v e1 h R1 s1 d1 => R1.dE h (k.mono s1) fun y n2 F2 H2 u e2 h R2 s2 d2 => ?_
    rcases M.bind_err h with h9 | ⟨t, n3, e3, h9⟩
    · exact (M.opt_err h9).elim
    obtain ⟨e4, e5⟩ := M.opt_ok e3
    subst e5
    clear h
    refine h1 fr F2 H2 σ ρ _ x y t v u _ R2 (d1.mono s2 fun _ z => z) d2 e4 fun F3 H3 w R3 s3 d3 => ?_
    split at h9
    · cases d3
      refine ⟨true, rfl, ?_⟩
      rw [if_pos rfl]
      exact R3.dE1 h9 ((k.mono (s1.trans s2)).mono s3)
    · exact (M.pure_err h9).elim
    · exact (M.opt_err h9).elim
  obtain ⟨x, n1, e1, ha⟩ := M.bind_ok e
  obtain ⟨y, n2, e2, hb⟩ := M.bind_ok ha
  obtain ⟨z, n3, e3, h⟩ := M.bind_ok hb
  obtain ⟨e4, e5⟩ := M.opt_ok e3
  clear ha hb
  subst e5
  refine ⟨fr, F, ρ, n, .ok x, n1, R, e1, fun F1 H1 v R1 s1 d1 => ⟨fr, F1, ρ, n1, .ok y, _, R1, e2, fun F2 H2 u R2 s2 d2 => ?_⟩⟩
  refine h1 fr F2 H2 σ ρ _ x y z v u _ R2 (d1.mono s2 fun _ z => z) d2 e4 fun F3 H3 w R3 s3 d3 => ?_
  split at h
  · cases d3
    refine ⟨true, rfl, ?_⟩
    rw [if_pos rfl]
    obtain ⟨t, n4, e6, h⟩ := M.bind_ok h
    obtain ⟨e7, e8⟩ := M.opt_ok h
    subst e8
    exact ⟨fr, F3, ρ, _, .ok t, _, R3, e6, fun F4 H4 w' R4 s4 d4 => h2 fr F4 H4 σ ρ _ y t d u w' Q R4 (d2.mono (s3.trans s4) fun _ z => z) d4 e7 fun F5 H5 w5 R5 s5 d5 => k F5 H5 w5 R5 ((((s1.trans s2).trans s3).trans s4).trans s5) d5⟩
  · cases d3
    refine ⟨false, rfl, ?_⟩
    rw [if_neg Bool.false_ne_true]
    obtain ⟨e6, e7⟩ := M.pure_ok h
    subst e6 e7
    exact k F3 H3 _ R3 ((s1.trans s2).trans s3) (.bl _)
  · obtain ⟨q, _⟩ := M.opt_ok h
    cases q
theorem d_chain {a b c : Expr} {fa fb fc : EX} {p q : CmpOp} {r r' : R2} {o1 o2 : D → D → Option D} {pos : Pos} (ho : OpR X (compareOp p) r) (ho' : OpR X (compareOp q) r') (h1 : Op2 X.K W r o1) (h2 : Op2 X.K W r' o2) (ha : PD X W a fa) (hb : PD X W b fb) (hc : PD X W c fc)
    (hm : lastMarks [p, q] [b, c] = false := by with_unfolding_all rfl) : PD X W (.Compare a [p, q] [b, c] pos) (eChain o1 o2 fa fb fc) := imp_E (pe_chain ho ho' ha hb hc hm) fun _ _ _ h => d_tChain h1 h2 h
theorem t_chain {a b c : Expr} {fa fb fc : EX} {p q : CmpOp} {r r' : R2} {o1 o2 : D → D → Option D} {pos : Pos} (ho : OpR X (compareOp p) r) (ho' : OpR X (compareOp q) r') (h1 : Op2 X.K W r o1) (h2 : Op2 X.K W r' o2) (ha : PD X W a fa) (hb : PD X W b fb) (hc : PD X W c fc)
    (hm : lastMarks [p, q] [b, c] = false := by with_unfolding_all rfl) : PDT X W (.Compare a [p, q] [b, c] pos) (tB (eChain o1 o2 fa fb fc)) := imp_T (pt_chain ho ho' ha hb hc hm) fun _ _ _ h => t_test (fun _ _ _ => d_tChain h1 h2) h
/-- and, or, not, as tests -/
def tAndD (t u : TX) : TX := fun ρ => M.bind (t ρ) fun b => match b with | true => u ρ | false => M.pure false
def tOrD (t u : TX) : TX := fun ρ => M.bind (t ρ) fun b => match b with | true => M.pure true | false => u ρ
def tNotD (t : TX) : TX := fun ρ => M.bind (t ρ) fun b => M.pure (!b)
theorem w_and1 {a : Expr} {t : TX} {pos : Pos} (h : PDT X W a t) : PDW X W (.BoolOp .And [a] pos) t := pw_and1 h
theorem w_or1 {a : Expr} {t : TX} {pos : Pos} (h : PDT X W a t) : PDW X W (.BoolOp .Or [a] pos) t := pw_or1 h
theorem tAnd_of {t u : TX} {σ : St} {H : Hp} {Q : Bool → Hp → Prop} (h : tT X W (tAndD t u) σ H Q) : tAnd (tT X W t) (tT X W u) σ H Q := by
  obtain ⟨fr, F, ρ, n, r, n', R, e, k⟩ := h
  rcases r with z | b
  · refine R.tE e k fun b n1 F1 H1 e1 h R1 s1 => ?_
    cases b with
    | false => exact (M.pure_err h).elim
    | true =>
      rw [if_pos rfl]
      exact ⟨fr, F1, ρ, n1, .error z, n', R1, h, k.mono s1⟩
  obtain ⟨x, n1, e1, h⟩ := M.bind_ok e
  refine ⟨fr, F, ρ, n, .ok x, n1, R, e1, fun F1 H1 R1 s1 => ?_⟩
  cases x with
  | true =>
    rw [if_pos rfl]
    exact ⟨fr, F1, ρ, n1, .ok b, n', R1, h, fun F2 H2 R2 s2 => k F2 H2 R2 (s1.trans s2)⟩
  | false =>
    rw [if_neg Bool.false_ne_true]
    obtain ⟨e6, e7⟩ := M.pure_ok h
    subst e6 e7
    exact k F1 H1 R1 s1
theorem tOr_of {t u : TX} {σ : St} {H : Hp} {Q : Bool → Hp → Prop} (h : tT X W (tOrD t u) σ H Q) : tOr (tT X W t) (tT X W u) σ H Q := by
  obtain ⟨fr, F, ρ, n, r, n', R, e, k⟩ := h
  rcases r with z | b
  · refine R.tE e k fun b n1 F1 H1 e1 h R1 s1 => ?_
    cases b with
    | true => exact (M.pure_err h).elim
    | false =>
      rw [if_neg Bool.false_ne_true]
      exact ⟨fr, F1, ρ, n1, .error z, n', R1, h, k.mono s1⟩
  obtain ⟨x, n1, e1, h⟩ := M.bind_ok e
  refine ⟨fr, F, ρ, n, .ok x, n1, R, e1, fun F1 H1 R1 s1 => ?_⟩
  cases x with
  | false =>
    rw [if_neg Bool.false_ne_true]
    exact ⟨fr, F1, ρ, n1, .ok b, n', R1, h, fun F2 H2 R2 s2 => k F2 H2 R2 (s1.trans s2)⟩
  | true =>
    rw [if_pos rfl]
    obtain ⟨e6, e7⟩ := M.pure_ok h
    subst e6 e7
    exact k F1 H1 R1 s1
theorem w_and {a b : Expr} {r : List Expr} {t u : TX} {pos : Pos} (h : PDT X W a t) (h' : PDW X W (.BoolOp .And (b :: r) pos) u) : PDW X W (.BoolOp .And (a :: b :: r) pos) (tAndD t u) := imp_W (pw_and h h') fun _ _ _ => tAnd_of
theorem w_or {a b : Expr} {r : List Expr} {t u : TX} {pos : Pos} (h : PDT X W a t) (h' : PDW X W (.BoolOp .Or (b :: r) pos) u) : PDW X W (.BoolOp .Or (a :: b :: r) pos) (tOrD t u) := imp_W (pw_or h h') fun _ _ _ => tOr_of
theorem t_w {e : Expr} {t : TX} (h : PDW X W e t) : PDT X W e t := h.pt
theorem t_not {a : Expr} {t : TX} {pos : Pos} (h : PDT X W a t) : PDT X W (.UnaryOp .Not a pos) (tNotD t) := imp_T (pt_not h) fun σ H Q ⟨fr, F, ρ, n, r, n', R, e, k⟩ => by
  rcases r with z | b
  · exact R.tE e k fun _ _ _ _ _ h _ _ => (M.pure_err h).elim
  obtain ⟨x, n1, e1, h⟩ := M.bind_ok e
  obtain ⟨e6, e7⟩ := M.pure_ok h
  subst e6 e7
  exact ⟨fr, F, ρ, n, .ok x, _, R, e1, fun F1 H1 R1 s1 => k F1 H1 R1 s1⟩
/-- and, or, not, as values -/
def eAnd (f g : EX) : EX := fun ρ => M.bind (f ρ) fun d => M.bind (M.opt (dTru d)) fun b => match b with | true => g ρ | false => M.pure d
def eOr (f g : EX) : EX := fun ρ => M.bind (f ρ) fun d => M.bind (M.opt (dTru d)) fun b => match b with | true => M.pure d | false => g ρ
def eNot (f : EX) : EX := fun ρ => M.bind (f ρ) fun d => M.bind (M.opt (dTru d)) fun b => M.pure (.bl (!b))
theorem d_one {a : Expr} {f : EX} {o : BoolOp} {pos : Pos} (h : PD X W a f) : PD X W (.BoolOp o [a] pos) f := pe_one h
theorem d_and {a b : Expr} {r : List Expr} {f g : EX} {pos : Pos} (h : PD X W a f) (h' : PD X W (.BoolOp .And (b :: r) pos) g) : PD X W (.BoolOp .And (a :: b :: r) pos) (eAnd f g) := imp_E (pe_andT h h') fun σ H Q ⟨fr, F, ρ, n, r, n', R, e, k⟩ => by
  rcases r with z | d
  · refine R.dE e k fun x n1 F1 H1 v e1 h R1 s1 d1 => ?_
    rcases M.bind_err h with h | ⟨b, n2, e2, h⟩
    · exact (M.opt_err h).elim
    obtain ⟨e3, e4⟩ := M.opt_ok e2
    subst e4
    refine ⟨b, tru_of R1.core.sub d1 e3, ?_⟩
    cases b with
    | false => exact (M.pure_err h).elim
    | true =>
      rw [if_pos rfl]
      exact ⟨fr, F1, ρ, _, .error z, n', R1, h, k.mono s1⟩
  obtain ⟨x, n1, e1, ha⟩ := M.bind_ok e
  obtain ⟨b, n2, e2, h⟩ := M.bind_ok ha
  obtain ⟨e3, e4⟩ := M.opt_ok e2
  clear ha
  subst e4
  refine ⟨fr, F, ρ, n, .ok x, _, R, e1, fun F1 H1 v R1 s1 d1 => ⟨b, tru_of R1.core.sub d1 e3, ?_⟩⟩
  cases b with
  | true =>
    rw [if_pos rfl]
    exact ⟨fr, F1, ρ, _, .ok d, n', R1, h, fun F2 H2 u R2 s2 d2 => k F2 H2 u R2 (s1.trans s2) d2⟩
  | false =>
    rw [if_neg Bool.false_ne_true]
    obtain ⟨e6, e7⟩ := M.pure_ok h
    subst e6 e7
    exact k F1 H1 v R1 s1 d1
theorem d_or {a b : Expr} {r : List Expr} {f g : EX} {pos : Pos} (h : PD X W a f) (h' : PD X W (.BoolOp .Or (b :: r) pos) g) : PD X W (.BoolOp .Or (a :: b :: r) pos) (eOr f g) := imp_E (pe_orT h h') fun σ H Q ⟨fr, F, ρ, n, r, n', R, e, k⟩ => by
  rcases r with z | d
  · refine R.dE e k fun x n1 F1 H1 v e1 h R1 s1 d1 => ?_
    rcases M.bind_err h with h | ⟨b, n2, e2, h⟩
    · exact (M.opt_err h).elim
    obtain ⟨e3, e4⟩ := M.opt_ok e2
    subst e4
    refine ⟨b, tru_of R1.core.sub d1 e3, ?_⟩
    cases b with
    | true => exact (M.pure_err h).elim
    | false =>
      rw [if_neg Bool.false_ne_true]
      exact ⟨fr, F1, ρ, _, .error z, n', R1, h, k.mono s1⟩
  obtain ⟨x, n1, e1, ha⟩ := M.bind_ok e
  obtain ⟨b, n2, e2, h⟩ := M.bind_ok ha
  obtain ⟨e3, e4⟩ := M.opt_ok e2
  clear ha
  subst e4
  refine ⟨fr, F, ρ, n, .ok x, _, R, e1, fun F1 H1 v R1 s1 d1 => ⟨b, tru_of R1.core.sub d1 e3, ?_⟩⟩
  cases b with
  | false =>
    rw [if_neg Bool.false_ne_true]
    exact ⟨fr, F1, ρ, _, .ok d, n', R1, h, fun F2 H2 u R2 s2 d2 => k F2 H2 u R2 (s1.trans s2) d2⟩
  | true =>
    rw [if_pos rfl]
    obtain ⟨e6, e7⟩ := M.pure_ok h
    subst e6 e7
    exact k F1 H1 v R1 s1 d1
theorem d_not {a : Expr} {f : EX} {pos : Pos} (h : PD X W a f) : PD X W (.UnaryOp .Not a pos) (eNot f) := imp_E (pe_notT h) fun σ H Q ⟨fr, F, ρ, n, r, n', R, e, k⟩ => by
  rcases r with z | d
  · refine R.dE e k fun x n1 F1 H1 v e1 h R1 s1 d1 => ?_
    rcases M.bind_err h with h | ⟨b, n2, e2, h⟩
    · exact (M.opt_err h).elim
    · exact (M.pure_err h).elim
  obtain ⟨x, n1, e1, ha⟩ := M.bind_ok e
  obtain ⟨b, n2, e2, h⟩ := M.bind_ok ha
  obtain ⟨e3, e4⟩ := M.opt_ok e2
  clear ha
  subst e4
  obtain ⟨e6, e7⟩ := M.pure_ok h
  subst e6 e7
  exact ⟨fr, F, ρ, n, .ok x, _, R, e1, fun F1 H1 v R1 s1 d1 => ⟨b, tru_of R1.core.sub d1 e3, k F1 H1 _ R1 s1 (.bl _)⟩⟩
def eIf (t : TX) (f g : EX) : EX := fun ρ => M.bind (t ρ) fun b => match b with | true => f ρ | false => g ρ
theorem d_if {c a b : Expr} {t : TX} {f g : EX} {pos : Pos} (hc : PDT X W c t) (ha : PD X W a f) (hb : PD X W b g) : PD X W (.IfExp c a b pos) (eIf t f g) := imp_E (pe_ifExp hc ha hb) fun σ H Q ⟨fr, F, ρ, n, r, n', R, e, k⟩ => by
  rcases r with z | d
  · refine R.tE e k fun b n1 F1 H1 e1 h R1 s1 => ?_
    cases b with
    | true =>
      rw [if_pos rfl]
      exact ⟨fr, F1, ρ, n1, .error z, n', R1, h, k.mono s1⟩
    | false =>
      rw [if_neg Bool.false_ne_true]
      exact ⟨fr, F1, ρ, n1, .error z, n', R1, h, k.mono s1⟩
  obtain ⟨b, n1, e1, h⟩ := M.bind_ok e
  refine ⟨fr, F, ρ, n, .ok b, n1, R, e1, fun F1 H1 R1 s1 => ?_⟩
  cases b with
  | true =>
    rw [if_pos rfl]
    exact ⟨fr, F1, ρ, n1, .ok d, n', R1, h, fun F2 H2 v R2 s2 d2 => k F2 H2 v R2 (s1.trans s2) d2⟩
  | false =>
    rw [if_neg Bool.false_ne_true]
    exact ⟨fr, F1, ρ, n1, .ok d, n', R1, h, fun F2 H2 v R2 s2 d2 => k F2 H2 v R2 (s1.trans s2) d2⟩

/-! ### subscripts -/
def dIx : D → D → Option D
  | .tup xs, .int i => atI xs i
  | .lst xs, .int i => atI xs i
  | .str z, .int i => if z.length ≤ sizeLine then (match atI z.cps.toList i with | some c => some (.str ⟨#[c]⟩) | none => none) else none
  | .scr, .int i => none
  | _, _ => none
theorem Dens.at {K : PySem.W.Frag} {dr : Option Addr} {F : Hp} {vs : List V} {ds : List D} {i : Int} {d : D} (h : Dens K W dr F vs ds) (e : atI ds i = some d) : ∃ v, atI vs i = some v ∧ Den K W dr F v d := by
  unfold atI at e ⊢
  rw [h.length]
  cases q : ixN ds.length i with
  | none => rw [q] at e; cases e
  | some j =>
    rw [q] at e
    exact h.get e
theorem q_ix {K : PySem.W.Frag} : Op2 K W (rIx K) dIx := by
  intro fr F H σ ρ n x y d v u Q R dx dy h k
  unfold dIx at h
  split at h
  · cases dx with
    | tup h1 h2 =>
      cases dy
      obtain ⟨w, e1, e2⟩ := h2.at h
      exact .inr (.inl ⟨_, _, _, w, rfl, rfl, R.core.sub.sqT h1, e1, k F H w R (Sub.refl _) e2⟩)
  · cases dx with
    | lst h1 h2 =>
      cases dy
      obtain ⟨w, e1, e2⟩ := h2.at h
      exact .inl ⟨_, _, _, w, rfl, rfl, SqL.of (R.core.sub _ _ h1), e1, k F H w R (Sub.refl _) e2⟩
  · cases dx; cases dy
    split at h
    · split at h
      · cases h
        exact .inr (.inr ⟨_, _, _, rfl, rfl, ‹_›, ‹_›, k F H _ R (Sub.refl _) (.str _)⟩)
      · cases h
    · cases h
  · cases h
  · cases h
theorem d_ix {a b : Expr} {fa fb : EX} {pos : Pos} (ha : PD X W a fa) (hb : PD X W b fb) (hs : PlainIx b := by exact fun _ _ => rfl) : PD X W (.Subscript a b pos) (e2 dIx fa fb) := imp_E (pe_ix ix_seq ha hb hs) fun _ _ _ h => d_tOp q_ix h

/-! ### slices a[lo:hi] -/
abbrev EO := Env → M (Option Int)
def oNone : EO := fun _ => M.pure none
def oSome (f : EX) : EO := fun ρ => M.bind (f ρ) fun d => M.opt (match d with | .int i => some (some i) | _ => none)
def tOD (X : Cx) (W : Wd) (f : EO) : TO := fun σ H Q => ∃ fr F ρ n r n', Rel X.K W fr F H σ ρ n ∧ f ρ n = some (r, n') ∧ Res (fun o => ∀ F' H', Rel X.K W fr F' H' σ ρ n' → Sub F F' → Q o H') (KX X W fr F σ ρ n') r
theorem imp_O {e : Option Expr} {t t' : TO} (h : PO X e t) (k : ∀ σ H Q, t' σ H Q → t σ H Q) : PO X e t' := ⟨fun pins s σ H Q I q => h.run pins s σ H Q I (k σ H Q q)⟩
theorem o_none : PO X none (tOD X W oNone) := imp_O po_none fun σ H Q ⟨fr, F, ρ, n, r, n', R, e, k⟩ => by
  rcases r with z | o
  · exact (M.pure_err e).elim
  obtain ⟨e6, e7⟩ := M.pure_ok e
  subst e6 e7
  exact k F H R (Sub.refl _)
theorem o_some {e : Expr} {f : EX} (h : PD X W e f) : PO X (some e) (tOD X W (oSome f)) := imp_O (po_some h) fun σ H Q ⟨fr, F, ρ, n, r, n', R, e, k⟩ => by
  rcases r with z | o
  · exact R.dE1 e k
  obtain ⟨x, n1, e1, h⟩ := M.bind_ok e
  obtain ⟨e3, e4⟩ := M.opt_ok h
  subst e4
  refine ⟨fr, F, ρ, n, .ok x, _, R, e1, fun F1 H1 v R1 s1 d1 => ?_⟩
  split at e3
  · cases e3; cases d1; exact ⟨_, rfl, k F1 H1 R1 s1⟩
  · cases e3
def cutD (xs : List D) (lo hi : Option Int) : List D := (xs.drop (HT.sIx xs.length 0 lo)).take (HT.sIx xs.length xs.length hi - HT.sIx xs.length 0 lo)
theorem Dens.cut {K : PySem.W.Frag} {dr : Option Addr} {F : Hp} {vs : List V} {ds : List D} (h : Dens K W dr F vs ds) (lo hi : Option Int) : Dens K W dr F (cutV vs lo hi) (cutD ds lo hi) := by
  unfold cutV cutD
  rw [h.length]
  exact (h.drop _).take _
def dCut (x : D) (lo hi : Option Int) : Option D := match x with
  | .tup xs => some (.tup (cutD xs lo hi))
  | .lst xs => some (.lst (cutD xs lo hi))
  | _ => none
theorem cut_whole {xs : List D} {lo hi : Option Int} (h : HT.sIx xs.length 0 lo = 0 ∧ HT.sIx xs.length xs.length hi = xs.length) : cutD xs lo hi = xs := by
  unfold cutD
  rw [h.1, h.2]
  simp
def eCut (f : EX) (lo hi : EO) : EX := fun ρ => M.bind (f ρ) fun x => M.bind (lo ρ) fun l => M.bind (hi ρ) fun h => M.opt (dCut x l h)
theorem d_cut {a : Expr} {lo hi : Option Expr} {f : EX} {l h : EO} {p2 pos : Pos} (ha : PD X W a f) (hl : PO X lo (tOD X W l)) (hh : PO X hi (tOD X W h)) : PD X W (.Subscript a (.Slice lo hi none p2) pos) (eCut f l h) := imp_E (pe_slice (sl_tupA.or sl_list) ha hl hh) fun σ H Q ⟨fr, F, ρ, n, r, n', R, e, k⟩ => by
  rcases r with z | d
  · refine R.dE e k fun x n1 F1 H1 v e1 h R1 s1 d1 => ?_
    rcases M.bind_err h with e2 | ⟨l', n2, e2, h⟩
    · exact ⟨fr, F1, ρ, n1, .error z, n', R1, e2, k.mono s1⟩
    refine ⟨fr, F1, ρ, n1, .ok l', n2, R1, e2, fun F2 H2 R2 s2 => ?_⟩
    rcases M.bind_err h with e3 | ⟨u', n3, e3, h⟩
    · exact ⟨fr, F2, ρ, n2, .error z, n', R2, e3, (k.mono s1).mono s2⟩
    · exact (M.opt_err h).elim
  obtain ⟨x, n1, e1, h⟩ := M.bind_ok e
  obtain ⟨l', n2, e2, h⟩ := M.bind_ok h
  obtain ⟨u', n3, e3, h⟩ := M.bind_ok h
  obtain ⟨e4, e5⟩ := M.opt_ok h
  subst e5
  refine ⟨fr, F, ρ, n, .ok x, _, R, e1, fun F1 H1 v R1 s1 d1 => ⟨fr, F1, ρ, _, .ok l', _, R1, e2, fun F2 H2 R2 s2 => ⟨fr, F2, ρ, _, .ok u', _, R2, e3, fun F3 H3 R3 s3 => ?_⟩⟩⟩
  have k' : ∀ F' H' w, Rel X.K W fr F' H' σ ρ _ → Sub F3 F' → Den X.K W fr.dr F' w d → Q w H' := fun F' H' w r s dd => k F' H' w r (((s1.trans s2).trans s3).trans s) dd
  have d3 := d1.mono (dr' := fr.dr) (s2.trans s3) fun _ z => z
  unfold dCut at e4
  split at e4
  · cases e4
    cases d3 with
    | tup h1 h2 =>
      refine .inl ⟨_, _, rfl, R3.core.sub.sqT h1, fun q => ?_, fun _ => put_tup R3 (h2.cut _ _) k'⟩
      have q' := q
      rw [h2.length] at q'
      exact k' F3 H3 _ R3 (Sub.refl _) (by rw [cut_whole q']; exact .tup h1 h2)
  · cases e4
    cases d3 with
    | lst h1 h2 => exact .inr ⟨_, _, rfl, SqL.of (R3.core.sub _ _ h1), put_lst R3 (h2.cut _ _) k'⟩
  · cases e4

/-! ### built-ins by values -/
/-- a built-in called -/
def CallD (K : PySem.W.Frag) (W : Wd) (r : List V → Hp → VK → Prop) (op : List D → Option D) : Prop := ∀ (fr : Fr) (F H : Hp) (σ : St) (ρ : Env) (n : Int) (xs : List D) (d : D) (vs : List V) (Q : VK), Rel K W fr F H σ ρ n → Dens K W fr.dr F vs xs → op xs = some d →
  (∀ F' H' w, Rel K W fr F' H' σ ρ n → Sub F F' → Den K W fr.dr F' w d → Q w H') → r vs H Q
def eB (op : List D → Option D) (f : EXs) : EX := fun ρ => M.bind (f ρ) fun xs => M.opt (op xs)
theorem tCB_of {r : List V → Hp → VK → Prop} {op : List D → Option D} {f : EXs} (hd : CallD X.K W r op) {σ : St} {H : Hp} {Q : VK} (h : tD X W (eB op f) σ H Q) : tCB r (tDs X W f) σ H Q := by
  obtain ⟨fr, F, ρ, n, r, n', R, e, k⟩ := h
  rcases r with z | d
  · exact R.dsE1 e k
  obtain ⟨x, n1, e1, h⟩ := M.bind_ok e
  obtain ⟨e4, e5⟩ := M.opt_ok h
  subst e5
  exact ⟨fr, F, ρ, n, .ok x, _, R, e1, fun F1 H1 vs R1 s1 d1 => hd fr F1 H1 σ ρ _ x d vs Q R1 d1 e4 fun F2 H2 w R2 s2 d2 => k F2 H2 w R2 (s1.trans s2) d2⟩
def dLen : List D → Option D
  | [.tup xs] => some (.int xs.length)
  | [.lst xs] => some (.int xs.length)
  | [.str x] => if x.length ≤ sizeLine then some (.int x.length) else none
  | _ => none
theorem q_len {K : PySem.W.Frag} : CallD K W (fun xs H Q => ∃ x n, xs = [x] ∧ LenV K x H n ∧ Q (.int n) H) dLen := by
  intro fr F H σ ρ n xs d vs Q R dx h k
  unfold dLen at h
  split at h
  · cases h
    cases dx with
    | cons h1 h2 =>
      cases h2
      cases h1 with
      | tup h3 h4 => exact ⟨_, _, rfl, .inr ⟨_, R.core.sub.sqT h3, rfl⟩, by rw [h4.length]; exact k F H _ R (Sub.refl _) (.int _)⟩
  · cases h
    cases dx with
    | cons h1 h2 =>
      cases h2
      cases h1 with
      | lst h3 h4 => exact ⟨_, _, rfl, .inl ⟨_, SqL.of (R.core.sub _ _ h3), rfl⟩, by rw [h4.length]; exact k F H _ R (Sub.refl _) (.int _)⟩
  · split at h
    · cases h
      cases dx with
      | cons h1 h2 =>
        cases h2
        cases h1
        exact ⟨_, _, rfl, ⟨‹_›, rfl⟩, k F H _ R (Sub.refl _) (.int _)⟩
    · cases h
  · cases h
end
end DL
end

section
set_option Elab.async false
set_option linter.all false
set_option autoImplicit false
set_option maxRecDepth 100000
namespace DL
open PySem PySem.Spec L2
section
variable {K : PySem.W.Frag} {W : Wd} {fr : Fr} {F F' H H' : Hp} {σ σ' : St} {ρ ρ' : Env} {n n' : Int}
/-! ### slots stored -/
theorem get_set_self {α : Type} {l : List α} {i : Nat} {a : α} (h : i < l.length) : (l.set i a)[i]? = some a := by simp [h]
theorem Rel.set (r : Rel K W fr F H σ ρ n) {i : Nat} {v : V} {d : D} (h : Den K W fr.dr F v d) : Rel K W fr F H (σ.set i (some v)) (ρ.set i (.val d)) n := by
  obtain ⟨ad, s⟩ := r.slots
  refine ⟨r.core, ad, by simp [s.len], fun j e q => ?_, fun j e q => ?_, fun j k e e' q q' => ?_⟩
  · by_cases hj : i = j
    · subst hj
      by_cases hi : i < ρ.length
      · rw [get_set_self hi] at q
        cases q
        exact ⟨v, get_set_self (by rw [s.len]; exact hi), h⟩
      · rw [List.getElem?_eq_none (by simpa using hi)] at q; cases q
    · rw [List.getElem?_set_ne hj] at q
      obtain ⟨u, h1, h2⟩ := s.val j e q
      exact ⟨u, by rw [List.getElem?_set_ne hj]; exact h1, h2⟩
  · by_cases hj : i = j
    · subst hj
      by_cases hi : i < ρ.length
      · rw [get_set_self hi] at q; cases q
      · rw [List.getElem?_eq_none (by simpa using hi)] at q; cases q
    · rw [List.getElem?_set_ne hj] at q
      obtain ⟨h1, h2⟩ := s.own j e q
      exact ⟨by rw [List.getElem?_set_ne hj]; exact h1, h2⟩
  · by_cases hj : i = j
    · subst hj
      by_cases hi : i < ρ.length
      · rw [get_set_self hi] at q; cases q
      · rw [List.getElem?_eq_none (by simpa using hi)] at q; cases q
    · by_cases hk : i = k
      · subst hk
        by_cases hi : i < ρ.length
        · rw [get_set_self hi] at q'; cases q'
        · rw [List.getElem?_eq_none (by simpa using hi)] at q'; cases q'
      · rw [List.getElem?_set_ne hj] at q
        rw [List.getElem?_set_ne hk] at q'
        exact s.inj j k e e' q q'
/-- a new object of one's own in a slot -/
theorem Rel.setOwn (r : Rel K W fr F H σ ρ n) {i : Nat} {p : Addr} {o : HO} {d : D} (hp : H p = none) (hd : isO d = false) (h : MDen K W fr.dr F (upd H p o) p d) : Rel K W fr F (upd H p o) (σ.set i (some (.ref p))) (ρ.set i (.own d)) n := by
  obtain ⟨ad, s⟩ := r.slots
  have hF := r.core.noF hp
  have kp : ∀ a u, H a = some u → upd H p o a = some u := fun a u q => by rw [upd_ne (ne_of_none q hp)]; exact q
  have old : ∀ (j : Nat) (e : D), ρ[j]? = some (.own e) → ad j ≠ p := fun j e q z => by
    obtain ⟨u, hu⟩ := (s.own j e q).2.2.2.2.1.there
    rw [z, hp] at hu; cases hu
  refine ⟨r.core.fresh' hp, fun j => if j = i then p else ad j, by simp [s.len], fun j e q => ?_, fun j e q => ?_, fun j k e e' q q' z => ?_⟩
  · by_cases hj : i = j
    · subst hj
      by_cases hi : i < ρ.length
      · rw [get_set_self hi] at q; cases q
      · rw [List.getElem?_eq_none (by simpa using hi)] at q; cases q
    · rw [List.getElem?_set_ne hj] at q
      obtain ⟨u, h1, h2⟩ := s.val j e q
      exact ⟨u, by rw [List.getElem?_set_ne hj]; exact h1, h2⟩
  · by_cases hj : i = j
    · subst hj
      by_cases hi : i < ρ.length
      · rw [get_set_self hi] at q
        cases q
        simp only [if_true]
        exact ⟨get_set_self (by rw [s.len]; exact hi), hF, r.core.ndr hp, .inl (r.core.noH0 hp), h, .inr ⟨hd, r.core.noH0 hp⟩⟩
      · rw [List.getElem?_eq_none (by simpa using hi)] at q; cases q
    · rw [List.getElem?_set_ne hj] at q
      obtain ⟨h1, h2, h3, h4, h5, h6⟩ := s.own j e q
      simp only [if_neg (Ne.symm hj)]
      exact ⟨by rw [List.getElem?_set_ne hj]; exact h1, h2, h3, h4, h5.mono (Sub.refl _) (fun u z => kp _ _ z), h6⟩
  · have len : ∀ {j : Nat} {e : D}, (ρ.set i (Sl.own d))[j]? = some (Sl.own e) → j ≠ i → ρ[j]? = some (Sl.own e) := fun {j e} q hj => by
      rw [List.getElem?_set_ne (Ne.symm hj)] at q; exact q
    by_cases hj : j = i
    · by_cases hk : k = i
      · rw [hj, hk]
      · simp only [if_pos hj, if_neg hk] at z
        exact absurd z.symm (old k e' (len q' hk))
    · by_cases hk : k = i
      · simp only [if_neg hj, if_pos hk] at z
        exact absurd z (old j e (len q hj))
      · simp only [if_neg hj, if_neg hk] at z
        exact s.inj j k e e' (len q hj) (len q' hk) z
/-- what is one's own, changed -/
theorem Rel.change (r : Rel K W fr F H σ ρ n) {i : Nat} {d d' : D} {o : HO} {ad : Nat → Addr} (s : Slots K W fr F H σ ρ ad) (hi : ρ[i]? = some (.own d)) (h : MDen K W fr.dr F (upd H (ad i) o) (ad i) d') (hd : isO d' = isO d) : Rel K W fr F (upd H (ad i) o) σ (ρ.set i (.own d')) n := by
  obtain ⟨h1, h2, h3, h4, h5, h6⟩ := s.own i d hi
  have hlt : i < ρ.length := (List.getElem?_eq_some_iff.mp hi).1
  have c := r.core
  have core : Core K W fr F (upd H (ad i) o) n := {
    sub := fun a u q => by rw [upd_ne (ne_of_none q h2)]; exact c.sub _ _ q
    base := fun a u q q2 q3 => by
      have ne : a ≠ ad i := fun z => by
        subst z
        rcases h4 with h4 | h4
        · rw [h4] at q; cases q
        · exact q3 h4
      rw [upd_ne ne]; exact c.base a u q q2 q3
    f0 := c.f0
    new := c.new
    there := fun a u q => by
      by_cases e : a = ad i
      · rw [e]; exact ⟨_, upd_same, (h.pl upd_same).1⟩
      · obtain ⟨o', z, nt⟩ := c.there a u q
        exact ⟨o', by rw [upd_ne e]; exact z, nt⟩
    draw := fun a e => by
      obtain ⟨q1, q2, q3⟩ := c.draw a e
      have ne : a ≠ ad i := fun z => h3 (by rw [← z]; exact e)
      exact ⟨q1, by rw [upd_ne ne]; exact q2, q3⟩
    ntF := c.ntF
    tabs := tabs_keep c.tabs fun a u q sd => by
      have ne : a ≠ ad i := fun z => by subst z; exact (h5.pl q).2 sd
      rw [upd_ne ne]; exact q }
  refine ⟨core, ad, by simp [s.len], fun j e q => ?_, fun j e q => ?_, fun j k e e' q q' z => ?_⟩
  · by_cases hj : i = j
    · subst hj; rw [get_set_self hlt] at q; cases q
    · rw [List.getElem?_set_ne hj] at q
      exact s.val j e q
  · by_cases hj : i = j
    · subst hj
      rw [get_set_self hlt] at q
      cases q
      exact ⟨h1, h2, h3, h4, h, by rw [hd]; exact h6⟩
    · rw [List.getElem?_set_ne hj] at q
      obtain ⟨q1, q2, q3, q4, q5, q6⟩ := s.own j e q
      refine ⟨q1, q2, q3, q4, q5.mono (Sub.refl _) fun u z => ?_, q6⟩
      have ne : ad j ≠ ad i := fun w => hj (s.inj i j d e hi q w.symm)
      rw [upd_ne ne]; exact z
  · have key : ∀ {j : Nat} {e : D}, (ρ.set i (Sl.own d'))[j]? = some (Sl.own e) → ∃ e', ρ[j]? = some (Sl.own e') := fun {j e} q => by
      by_cases hj : i = j
      · subst hj; exact ⟨_, hi⟩
      · rw [List.getElem?_set_ne hj] at q; exact ⟨_, q⟩
    obtain ⟨a, qa⟩ := key q
    obtain ⟨b, qb⟩ := key q'
    exact s.inj j k a b qa qb z
/-- one's own, given out -/
def frz (i : Nat) (ρ : Env) : Env := match ρ[i]? with
  | some (.own d) => ρ.set i (.val d)
  | _ => ρ
def HO' (K : PySem.W.Frag) (W : Wd) (H : Hp) (a : Addr) : Option HO := H a
theorem Rel.freeze (r : Rel K W fr F H σ ρ n) {i : Nat} {d : D} {ad : Nat → Addr} (s : Slots K W fr F H σ ρ ad) (hi : ρ[i]? = some (.own d)) (hx : fr.H0 (ad i) = none) : ∃ F', Sub F F' ∧ Rel K W fr F' H σ (ρ.set i (.val d)) n := by
  obtain ⟨h1, h2, h3, h4, h5, h6⟩ := s.own i d hi
  obtain ⟨o, ho⟩ := h5.there
  have hlt : i < ρ.length := (List.getElem?_eq_some_iff.mp hi).1
  have c := r.core
  have up : Sub F (upd F (ad i) o) := fun a u q => by rw [upd_ne (ne_of_none q h2)]; exact q
  have core : Core K W fr (upd F (ad i) o) H n := {
    sub := fun a u q => by
      by_cases e : a = ad i
      · rw [e, upd_same] at q; rw [e, ho]; exact q
      · rw [upd_ne e] at q; exact c.sub _ _ q
    base := c.base
    f0 := c.f0.trans up
    new := fun a u q q2 => by
      have e : a ≠ ad i := ne_of_none q hx
      rw [upd_ne e]; exact c.new a u q q2
    there := c.there
    draw := fun a e => by
      obtain ⟨q1, q2, q3⟩ := c.draw a e
      have ne : a ≠ ad i := fun z => h3 (by rw [← z]; exact e)
      exact ⟨by rw [upd_ne ne]; exact q1, q2, up.sqL q3⟩
    ntF := fun a u q => by
      by_cases e : a = ad i
      · rw [e, upd_same] at q; cases q; exact (h5.pl ho).1
      · rw [upd_ne e] at q; exact c.ntF a u q
    tabs := c.tabs }
  have den : Den K W fr.dr (upd F (ad i) o) (.ref (ad i)) d := by
    cases d with
    | lst ds => obtain ⟨vs, e, q⟩ := h5; rw [ho] at e; cases e; exact .lst upd_same (q.mono up fun _ z => z)
    | dic ks ds => obtain ⟨vs, l, e, q⟩ := h5; rw [ho] at e; cases e; exact .dic l (.inl upd_same) (q.mono up fun _ z => z)
    | dit ks ds => obtain ⟨vs, l, e, q⟩ := h5; rw [ho] at e; cases e; exact .dit l (.inl upd_same) (q.mono up fun _ z => z)
    | obj c ks ds => obtain ⟨dx, vs, l, e, q⟩ := h5; rw [ho] at e; cases e; exact .obj l upd_same (q.mono up fun _ z => z)
    | non => exact h5.elim
    | bl _ => exact h5.elim
    | int _ => exact h5.elim
    | str _ => exact h5.elim
    | tup _ => exact h5.elim
    | drw => exact h5.elim
    | scr => exact h5.elim
  refine ⟨_, up, core, ad, by simp [s.len], fun j e q => ?_, fun j e q => ?_, fun j k e e' q q' z => ?_⟩
  · by_cases hj : i = j
    · subst hj; rw [get_set_self hlt] at q; cases q
      exact ⟨_, h1, den⟩
    · rw [List.getElem?_set_ne hj] at q
      obtain ⟨v, q1, q2⟩ := s.val j e q
      exact ⟨v, q1, q2.mono up fun _ z => z⟩
  · by_cases hj : i = j
    · subst hj; rw [get_set_self hlt] at q; cases q
    · rw [List.getElem?_set_ne hj] at q
      obtain ⟨q1, q2, q3, q4, q5, q6⟩ := s.own j e q
      have ne : ad j ≠ ad i := fun w => hj (s.inj i j d e hi q w.symm)
      exact ⟨q1, by rw [upd_ne ne]; exact q2, q3, q4, q5.mono up fun _ z => z, q6⟩
  · by_cases hj : i = j
    · subst hj; rw [get_set_self hlt] at q; cases q
    · by_cases hk : i = k
      · subst hk; rw [get_set_self hlt] at q'; cases q'
      · rw [List.getElem?_set_ne hj] at q
        rw [List.getElem?_set_ne hk] at q'
        exact s.inj j k e e' q q' z
end

/-! ### targets -/
abbrev GX := D → Env → Option Env
abbrev GXs := List D → Env → Option Env
def gV (i : Nat) : GX := fun d ρ => some (ρ.set i (.val d))
def gsN : GXs := fun ds ρ => match ds with | [] => some ρ | _ => none
def gsC (g : GX) (gs : GXs) : GXs := fun ds ρ => match ds with
  | [] => none
  | d :: r => (g d ρ).bind fun ρ1 => gs r ρ1
def gT (gs : GXs) : GX := fun d ρ => match d with | .tup ds => gs ds ρ | _ => none
theorem wipe_get (σ : St) (j : Nat) : ∀ vs : List Nat, (wipe σ vs)[j]? = if j ∈ vs then (if j < σ.length then some none else none) else σ[j]?
  | [] => by simp [wipe]
  | v :: vs => by
    unfold wipe
    by_cases hj : v = j
    · subst hj
      rw [if_pos List.mem_cons_self]
      by_cases hl : v < σ.length
      · rw [if_pos hl, get_set_self (by rw [wipe_length]; exact hl)]
      · rw [if_neg hl, List.getElem?_eq_none (by rw [List.length_set, wipe_length]; omega)]
    · rw [List.getElem?_set_ne hj, wipe_get σ j vs]
      have : (j ∈ v :: vs) = (j ∈ vs) := by simp [Ne.symm hj]
      simp only [this]
/-- the slots is alone have changed -/
def Wip (is : List Nat) (σ σ' : St) : Prop := ∀ vs : List Nat, (∀ i ∈ is, i ∈ vs) → wipe σ' vs = wipe σ vs
theorem Wip.refl (is : List Nat) (σ : St) : Wip is σ σ := fun _ _ => rfl
theorem Wip.trans {is : List Nat} {σ σ1 σ2 : St} (a : Wip is σ σ1) (b : Wip is σ1 σ2) : Wip is σ σ2 := fun vs h => (b vs h).trans (a vs h)
theorem Wip.mono {is js : List Nat} {σ σ1 : St} (a : Wip is σ σ1) (h : ∀ i ∈ is, i ∈ js) : Wip js σ σ1 := fun vs k => a vs fun i hi => k i (h i hi)
theorem Wip.set (σ : St) (i : Nat) (x : Option V) : Wip [i] σ (σ.set i x) := fun vs h => by
  have hi : i ∈ vs := h i (by simp)
  apply List.ext_getElem?
  intro j
  rw [wipe_get, wipe_get, List.length_set]
  by_cases hj : j ∈ vs
  · rw [if_pos hj, if_pos hj]
  · rw [if_neg hj, if_neg hj, List.getElem?_set_ne (fun e => hj (by rw [← e]; exact hi))]
theorem wipe_wipe (σ : St) (vs : List Nat) : wipe (wipe σ vs) vs = wipe σ vs := by
  apply List.ext_getElem?
  intro j
  rw [wipe_get, wipe_get, wipe_length]
  by_cases hj : j ∈ vs
  · rw [if_pos hj, if_pos hj]
  · rw [if_neg hj, if_neg hj]
/-- a target over data -/
def GOk (K : PySem.W.Frag) (W : Wd) (t : TG) (g : GX) (is : List Nat) : Prop := ∀ (fr : Fr) (F H : Hp) (σ : St) (ρ ρ' : Env) (n : Int) (v : V) (d : D) (Q : St → Hp → Prop), Rel K W fr F H σ ρ n → Den K W fr.dr F v d → g d ρ = some ρ' →
  (∀ σ', Rel K W fr F H σ' ρ' n → Wip is σ σ' → Q σ' H) → t v σ H Q
def GsOk (K : PySem.W.Frag) (W : Wd) (t : TGs) (g : GXs) (is : List Nat) : Prop := ∀ (fr : Fr) (F H : Hp) (σ : St) (ρ ρ' : Env) (n : Int) (vs : List V) (ds : List D) (Q : St → Hp → Prop), Rel K W fr F H σ ρ n → Dens K W fr.dr F vs ds → g ds ρ = some ρ' →
  (∀ σ', Rel K W fr F H σ' ρ' n → Wip is σ σ' → Q σ' H) → t vs σ H Q
section
variable {K : PySem.W.Frag} {W : Wd}
theorem q_gV (i : Nat) : GOk K W (gName i) (gV i) [i] := fun fr F H σ ρ ρ' n v d Q R hd e k => by
  cases e
  exact k _ (R.set hd) (Wip.set _ _ _)
theorem q_gsN : GsOk K W gNil gsN [] := fun fr F H σ ρ ρ' n vs ds Q R hd e k => by
  unfold gsN at e
  split at e
  · cases e; cases hd; exact ⟨rfl, k _ R (Wip.refl _ _)⟩
  · cases e
theorem q_gsC {t : TG} {u : TGs} {g : GX} {gs : GXs} {is js : List Nat} (h : GOk K W t g is) (h' : GsOk K W u gs js) : GsOk K W (gCons t u) (gsC g gs) (is ++ js) := fun fr F H σ ρ ρ' n vs ds Q R hd e k => by
  unfold gsC at e
  split at e
  · cases e
  · cases hd with
    | cons h1 h2 =>
      cases q : g _ ρ with
      | none => rw [q] at e; cases e
      | some ρ1 =>
        rw [q] at e
        exact ⟨_, _, rfl, h fr F H σ ρ ρ1 n _ _ _ R h1 q fun σ' R' w1 => h' fr F H σ' ρ1 ρ' n _ _ Q R' h2 e fun σ2 R2 w2 => k σ2 R2 ((w1.mono fun i hi => List.mem_append_left _ hi).trans (w2.mono fun i hi => List.mem_append_right _ hi))⟩
theorem gs_len {g : GXs} : True := trivial
/-- how many targets -/
def GLen (g : GXs) (m : Nat) : Prop := ∀ ds ρ ρ', g ds ρ = some ρ' → ds.length = m
theorem gl_N : GLen gsN 0 := fun ds ρ ρ' e => by
  unfold gsN at e
  split at e
  · rfl
  · cases e
theorem gl_C {g : GX} {gs : GXs} {m : Nat} (h : GLen gs m) : GLen (gsC g gs) (m + 1) := fun ds ρ ρ' e => by
  unfold gsC at e
  split at e
  · cases e
  · cases q : g _ ρ with
    | none => rw [q] at e; cases e
    | some ρ1 =>
      rw [q] at e
      simp [h _ _ _ e]
theorem q_gT {u : TGs} {gs : GXs} {m : Nat} {is : List Nat} (h : GsOk K W u gs is) (l : GLen gs m) : GOk K W (gTup K m u) (gT gs) is := fun fr F H σ ρ ρ' n v d Q R hd e k => by
  unfold gT at e
  split at e
  · cases hd with
    | tup h1 h2 => exact ⟨_, _, rfl, R.core.sub.sqT h1, by rw [h2.length]; exact l _ _ _ e, h fr F H σ ρ ρ' n _ _ Q R h2 e k⟩
  · cases e
end

/-! ### statements -/
section
variable {X : Cx} {W : Wd}
def sNx : SX := fun ρ => M.pure (.nx ρ)
def sBk : SX := fun ρ => M.pure (.bk ρ)
def sCt : SX := fun ρ => M.pure (.ct ρ)
def sSeq (g h : SX) : SX := fun ρ => M.bind (g ρ) fun o => match o with
  | .nx ρ' => h ρ'
  | .bk ρ' => M.pure (.bk ρ')
  | .ct ρ' => M.pure (.ct ρ')
  | .ret d => M.pure (.ret d)
def sRet (f : EX) : SX := fun ρ => M.bind (f ρ) fun d => M.pure (.ret d)
def sRetN : SX := fun ρ => M.pure (.ret .non)
def sExp (f : EX) : SX := fun ρ => M.bind (f ρ) fun _ => M.pure (.nx ρ)
def sAsg (g : GX) (f : EX) : SX := fun ρ => M.bind (f ρ) fun d => M.bind (M.opt (g d ρ)) fun ρ' => M.pure (.nx ρ')
def sIf (t : TX) (g h : SX) : SX := fun ρ => M.bind (t ρ) fun b => match b with | true => g ρ | false => h ρ
def sNo : SX := fun _ => M.opt none
theorem S_nil : PDSs X W [] sNx := imp_Ss pss_nil fun E σ H ⟨fr, F, ρ, n, r, n', R, e, k⟩ => by
  rcases r with z | o
  · exact (M.pure_err e).elim
  obtain ⟨h1, h2⟩ := M.pure_ok e
  subst h1 h2
  exact k F H σ R (Sub.refl _)
theorem S_pass {pos : Pos} : PDS X W (.Pass pos) sNx := imp_S ps_pass fun E σ H ⟨fr, F, ρ, n, r, n', R, e, k⟩ => by
  rcases r with z | o
  · exact (M.pure_err e).elim
  obtain ⟨h1, h2⟩ := M.pure_ok e
  subst h1 h2
  exact k F H σ R (Sub.refl _)
theorem S_break {pos : Pos} : PDS X W (.Break pos) sBk := imp_S ps_break fun E σ H ⟨fr, F, ρ, n, r, n', R, e, k⟩ => by
  rcases r with z | o
  · exact (M.pure_err e).elim
  obtain ⟨h1, h2⟩ := M.pure_ok e
  subst h1 h2
  exact k F H σ R (Sub.refl _)
theorem S_cont {pos : Pos} : PDS X W (.Continue pos) sCt := imp_S ps_continue fun E σ H ⟨fr, F, ρ, n, r, n', R, e, k⟩ => by
  rcases r with z | o
  · exact (M.pure_err e).elim
  obtain ⟨h1, h2⟩ := M.pure_ok e
  subst h1 h2
  exact k F H σ R (Sub.refl _)
/-- a statement that is not reached -/
theorem S_no {st : Stmt} : PDS X W st sNo := imp_S ps_never fun E σ H ⟨fr, F, ρ, n, r, n', R, e, k⟩ => by
  rcases r with z | o
  · exact (M.opt_err e).elim
  obtain ⟨h1, h2⟩ := M.opt_ok e
  cases h1
theorem S_one {st : Stmt} {g : SX} (h : PDS X W st g) : PDSs X W [st] g := pss_one h
theorem S_cons {st : Stmt} {r : List Stmt} {g h : SX} (hg : PDS X W st g) (hh : PDSs X W r h) : PDSs X W (st :: r) (sSeq g h) := imp_Ss (pss_cons hg hh) fun E σ H ⟨fr, F, ρ, n, r, n', R, e, k⟩ => by
  rcases r with z | o
  · refine R.sE e k fun o1 n1 e1 h => ?_
    cases o1 with
    | nx ρ1 => exact fun F1 H1 σ1 R1 s1 => ⟨fr, F1, ρ1, n1, .error z, n', R1, h, KS.mono k s1⟩
    | bk ρ1 => exact (M.pure_err h).elim
    | ct ρ1 => exact (M.pure_err h).elim
    | ret d => exact (M.pure_err h).elim
  obtain ⟨o1, n1, e1, h⟩ := M.bind_ok e
  refine ⟨fr, F, ρ, n, .ok o1, n1, R, e1, ?_⟩
  cases o1 with
  | nx ρ1 => exact fun F1 H1 σ1 R1 s1 => ⟨fr, F1, ρ1, n1, .ok o, n', R1, h, k.mono s1⟩
  | bk ρ1 =>
    obtain ⟨h1, h2⟩ := M.pure_ok h
    subst h1 h2
    exact k
  | ct ρ1 =>
    obtain ⟨h1, h2⟩ := M.pure_ok h
    subst h1 h2
    exact k
  | ret d =>
    obtain ⟨h1, h2⟩ := M.pure_ok h
    subst h1 h2
    exact k
theorem S_ret {e : Expr} {f : EX} {pos : Pos} (he : PD X W e f) : PDS X W (.Return (some e) pos) (sRet f) := imp_S (ps_ret he) fun E σ H ⟨fr, F, ρ, n, r, n', R, e, k⟩ => by
  rcases r with z | o
  · exact R.dE e (KS.x k) fun _ _ _ _ _ _ h _ _ _ => (M.pure_err h).elim
  obtain ⟨x, n1, e1, h⟩ := M.bind_ok e
  obtain ⟨h1, h2⟩ := M.pure_ok h
  subst h1 h2
  exact ⟨fr, F, ρ, n, .ok x, _, R, e1, fun F1 H1 v R1 s1 d1 => k F1 H1 v R1.core s1 d1⟩
theorem S_retN {pos : Pos} : PDS X W (.Return none pos) sRetN := imp_S ps_retN fun E σ H ⟨fr, F, ρ, n, r, n', R, e, k⟩ => by
  rcases r with z | o
  · exact (M.pure_err e).elim
  obtain ⟨h1, h2⟩ := M.pure_ok e
  subst h1 h2
  exact k F H _ R.core (Sub.refl _) .non
theorem S_exp {e : Expr} {f : EX} {pos : Pos} (he : PD X W e f) (hs : swapsWith e none pos.line X.env = pure false := by rfl) : PDS X W (.Expr e pos) (sExp f) := imp_S (ps_expr he hs) fun E σ H ⟨fr, F, ρ, n, r, n', R, e, k⟩ => by
  rcases r with z | o
  · exact R.dE e (KS.x k) fun _ _ _ _ _ _ h _ _ _ => (M.pure_err h).elim
  obtain ⟨x, n1, e1, h⟩ := M.bind_ok e
  obtain ⟨h1, h2⟩ := M.pure_ok h
  subst h1 h2
  exact ⟨fr, F, ρ, n, .ok x, _, R, e1, fun F1 H1 v R1 s1 d1 => k F1 H1 σ R1 s1⟩
theorem S_asg {tg e : Expr} {f : EX} {t : TG} {g : GX} {pos : Pos} (he : PD X W e f) (ht : PG X tg t) {is : List Nat} (hg : GOk X.K W t g is) (hs : swapsWithSole [tg] e pos.line X.env = pure false := by rfl) (hw : swappedStores [tg] e X.env = pure none := by rfl)
    (h1 : (assignEach [tg] X.env).map (·.2) = [assign tg X.env] := by rfl) : PDS X W (.Assign [tg] e pos) (sAsg g f) := imp_S (ps_asg he ht hs hw h1) fun E σ H ⟨fr, F, ρ, n, r, n', R, e, k⟩ => by
  rcases r with z | o
  · refine R.dE e (KS.x k) fun _ _ _ _ _ _ h _ _ _ => ?_
    rcases M.bind_err h with h | ⟨_, _, _, h⟩
    · exact (M.opt_err h).elim
    · exact (M.pure_err h).elim
  obtain ⟨x, n1, e1, ha⟩ := M.bind_ok e
  obtain ⟨ρ', n2, e2, h⟩ := M.bind_ok ha
  obtain ⟨h1, h2⟩ := M.pure_ok h
  obtain ⟨h3, h4⟩ := M.opt_ok e2
  clear ha h
  subst h4
  subst h1 h2
  exact ⟨fr, F, ρ, n, .ok x, _, R, e1, fun F1 H1 v R1 s1 d1 => hg fr F1 H1 σ ρ ρ' _ v x _ R1 d1 h3 fun σ' R' _ => k F1 H1 σ' R' s1⟩
theorem S_if {c : Expr} {a b : List Stmt} {t : TX} {g h : SX} {pos : Pos} (hc : PDT X W c t) (ha : PDSs X W a g) (hb : PDSs X W b h) : PDS X W (.If c a b pos) (sIf t g h) := imp_S (ps_if hc ha hb) fun E σ H ⟨fr, F, ρ, n, r, n', R, e, k⟩ => by
  rcases r with z | o
  · refine R.tE e (KS.x k) fun b n1 F1 H1 e1 h R1 s1 => ?_
    cases b with
    | true =>
      rw [if_pos rfl]
      exact ⟨fr, F1, ρ, n1, .error z, n', R1, h, KS.mono k s1⟩
    | false =>
      rw [if_neg Bool.false_ne_true]
      exact ⟨fr, F1, ρ, n1, .error z, n', R1, h, KS.mono k s1⟩
  obtain ⟨b, n1, e1, h⟩ := M.bind_ok e
  refine ⟨fr, F, ρ, n, .ok b, n1, R, e1, fun F1 H1 R1 s1 => ?_⟩
  cases b with
  | true =>
    rw [if_pos rfl]
    exact ⟨fr, F1, ρ, n1, .ok o, n', R1, h, k.mono s1⟩
  | false =>
    rw [if_neg Bool.false_ne_true]
    exact ⟨fr, F1, ρ, n1, .ok o, n', R1, h, k.mono s1⟩
/-- a, b = x, y and a, b, c = x, y, z, all plain locals -/
def sPar (is : List Nat) (f : EXs) : SX := fun ρ => M.bind (f ρ) fun ds => if ds.length = is.length then M.pure (.nx ((is.zip ds).foldl (fun r p => r.set p.1 (.val p.2)) ρ)) else M.opt none
theorem S_par2 {i j : Nat} {x y : Str} {a b : Expr} {f : EXs} {px py pt pos : Pos} {kt k2 pt2} (h : PS X (.Assign [.Tuple [.Name x px, .Name y py] kt pt] (.Tuple [a, b] k2 pt2) pos) (tPar i j (tDs X W f))) : PDS X W (.Assign [.Tuple [.Name x px, .Name y py] kt pt] (.Tuple [a, b] k2 pt2) pos) (sPar [i, j] f) := imp_S h fun E σ H ⟨fr, F, ρ, n, r, n', R, e, k⟩ => by
  rcases r with z | o
  · refine R.dsE e (KS.x k) fun _ _ _ _ _ _ h _ _ _ => ?_
    split at h
    · exact (M.pure_err h).elim
    · exact (M.opt_err h).elim
  obtain ⟨ds, n1, e1, h⟩ := M.bind_ok e
  refine ⟨fr, F, ρ, n, .ok ds, n1, R, e1, fun F1 H1 vs R1 s1 d1 => ?_⟩
  split at h
  · obtain ⟨h1, h2⟩ := M.pure_ok h
    subst h1 h2
    cases d1 with
    | nil => simp at *
    | cons q1 d2 =>
      cases d2 with
      | nil => simp at *
      | cons q2 d3 =>
        cases d3 with
        | cons _ _ => simp at *
        | nil => exact ⟨_, _, rfl, k F1 H1 _ ((R1.set q1).set q2) s1⟩
  · cases (M.opt_ok h).1
theorem S_par3 {i j l : Nat} {x y z : Str} {a b c : Expr} {f : EXs} {px py pz pt pos : Pos} {kt k2 pt2} (h : PS X (.Assign [.Tuple [.Name x px, .Name y py, .Name z pz] kt pt] (.Tuple [a, b, c] k2 pt2) pos) (tPar3 i j l (tDs X W f))) : PDS X W (.Assign [.Tuple [.Name x px, .Name y py, .Name z pz] kt pt] (.Tuple [a, b, c] k2 pt2) pos) (sPar [i, j, l] f) := imp_S h fun E σ H ⟨fr, F, ρ, n, r, n', R, e, k⟩ => by
  rcases r with z | o
  · refine R.dsE e (KS.x k) fun _ _ _ _ _ _ h _ _ _ => ?_
    split at h
    · exact (M.pure_err h).elim
    · exact (M.opt_err h).elim
  obtain ⟨ds, n1, e1, h⟩ := M.bind_ok e
  refine ⟨fr, F, ρ, n, .ok ds, n1, R, e1, fun F1 H1 vs R1 s1 d1 => ?_⟩
  split at h
  · obtain ⟨h1, h2⟩ := M.pure_ok h
    subst h1 h2
    cases d1 with
    | nil => simp at *
    | cons q1 d2 =>
      cases d2 with
      | nil => simp at *
      | cons q2 d3 =>
        cases d3 with
        | nil => simp at *
        | cons q3 d4 =>
          cases d4 with
          | cons _ _ => simp at *
          | nil => exact ⟨_, _, _, rfl, k F1 H1 _ (((R1.set q1).set q2).set q3) s1⟩
  · cases (M.opt_ok h).1
end

/-! ### loops -/
section
variable {X : Cx} {W : Wd}
/-- an iterator that hands on ds -/
def ItOk (K : PySem.W.Frag) (W : Wd) (dr : Option Addr) (F0 : Hp) (J : It) (ds : List D) : Prop := ∀ (fr : Fr) (F H : Hp) (σ : St) (ρ : Env) (n : Int) (i : Nat), fr.dr = dr → Rel K W fr F H σ ρ n → Sub F0 F →
  (∀ d, ds[i]? = some d → J.go i H ∧ ∀ x H', J.yld i H x H' → ∃ F', Rel K W fr F' H' σ ρ n ∧ Sub F F' ∧ Den K W dr F' x d) ∧ (i = ds.length → J.stop i H)
abbrev IX := Env → M (List D)
def tI (X : Cx) (W : Wd) (f : IX) : TI := fun σ H R => ∃ fr F ρ n r n', Rel X.K W fr F H σ ρ n ∧ f ρ n = some (r, n') ∧
  Res (fun ds => ∀ F' H' J, Rel X.K W fr F' H' σ ρ n' → Sub F F' → ItOk X.K W fr.dr F' J ds → R J H') (KX X W fr F σ ρ n') r
abbrev PDI (X : Cx) (W : Wd) (tg e : Expr) (f : IX) : Prop := PI X tg e (tI X W f)
theorem imp_I {tg e : Expr} {t t' : TI} (h : PI X tg e t) (k : ∀ σ H R, t' σ H R → t σ H R) : PI X tg e t' := ⟨fun pins s σ H R I q => h.run pins s σ H R I (k σ H R q)⟩
def iSeq (K : PySem.W.Frag) (tl : TE) : TI := fun σ H R => tl σ H fun x H1 => ∃ a, x = .ref a ∧ (((∃ xs, SqL K H1 a xs) ∧ R (Itl K a) H1) ∨ ((∃ xs, SqT K H1 a xs) ∧ R (Itt K a) H1))
theorem pi_seq {tg l : Expr} {tl : TE} (hl : PE X l tl) : PI X tg l (iSeq X.K tl) := by
  refine ⟨fun pins s σ H R I h => ?_⟩
  refine thn (hl.run pins s σ H _ I h) fun v s1 ⟨x, H1, I1, r1, q1⟩ => ?_
  obtain ⟨a, e, q⟩ := q1
  subst e
  cases r1
  rcases q with ⟨⟨xs, hq⟩, q⟩ | ⟨⟨xs, hq⟩, q⟩
  · obtain ⟨its, rv, p, hz⟩ := I1.list hq
    refine wpAny_pyIter_list p.isList ?_
    refine ⟨s1.heap.objs.size, [s1.heap.objs.size], _, _, H1, rfl, I1.kept (t' := s1.toks) fun b o e => Heap.get?_push_of_some _ e, turn_list a _, ⟨_, Heap.get?_push_size _ rfl, rfl, rfl⟩, fun b hb => ?_, q⟩
    have e : b = s1.heap.objs.size := by simpa using hb
    subst e
    exact I1.fpOk (Nat.le_refl _) (I1.hok.fresh (Nat.le_refl _))
  · obtain ⟨its, rv, p, hz⟩ := I1.tuple hq
    refine wpAny_pyIter_tuple (show s1.heap.IsTuple a its.toArray from p) ?_
    refine ⟨s1.heap.objs.size, [s1.heap.objs.size], _, _, H1, rfl, I1.kept (t' := s1.toks) fun b o e => Heap.get?_push_of_some _ e, turn_tuple a _, ⟨_, Heap.get?_push_size _ rfl, rfl, rfl⟩, fun b hb => ?_, q⟩
    have e : b = s1.heap.objs.size := by simpa using hb
    subst e
    exact I1.fpOk (Nat.le_refl _) (I1.hok.fresh (Nat.le_refl _))
def dItems : D → Option (List D)
  | .tup xs => some xs
  | .lst xs => some xs
  | .scr => none
  | _ => none
def iOf (f : EX) : IX := fun ρ => M.bind (f ρ) fun d => M.opt (dItems d)
theorem it_list {K : PySem.W.Frag} {dr : Option Addr} {F0 : Hp} {a : Addr} {vs : List V} {ds : List D} (h : F0 a = some (.lst vs)) (hd : Dens K W dr F0 vs ds) : ItOk K W dr F0 (Itl K a) ds := fun fr F H σ ρ n i edr R s => by
  have hH : H a = some (.lst vs) := R.core.sub _ _ (s _ _ h)
  refine ⟨fun d e => ?_, fun e => ⟨vs, SqL.of hH, by rw [hd.length, e]; exact Nat.le_refl _⟩⟩
  obtain ⟨v, e1, e2⟩ := hd.get e
  refine ⟨⟨vs, v, SqL.of hH, e1⟩, fun x H' ⟨q1, q2⟩ => ?_⟩
  subst q1
  have := q2 vs (SqL.of hH)
  rw [e1] at this
  cases this
  exact ⟨F, R, Sub.refl _, e2.mono s fun _ z => z⟩
theorem it_tup {K : PySem.W.Frag} {dr : Option Addr} {F0 : Hp} {a : Addr} {vs : List V} {ds : List D} (h : SqT K F0 a vs) (hd : Dens K W dr F0 vs ds) : ItOk K W dr F0 (Itt K a) ds := fun fr F H σ ρ n i edr R s => by
  have hH : SqT K H a vs := R.core.sub.sqT (s.sqT h)
  refine ⟨fun d e => ?_, fun e => ⟨vs, hH, by rw [hd.length, e]; exact Nat.le_refl _⟩⟩
  obtain ⟨v, e1, e2⟩ := hd.get e
  refine ⟨⟨vs, v, hH, e1⟩, fun x H' ⟨q1, q2⟩ => ?_⟩
  subst q1
  have := q2 vs hH
  rw [e1] at this
  cases this
  exact ⟨F, R, Sub.refl _, e2.mono s fun _ z => z⟩
theorem i_of {tg l : Expr} {f : EX} (h : PD X W l f) : PDI X W tg l (iOf f) := imp_I (pi_seq h) fun σ H R ⟨fr, F, ρ, n, r, n', R0, e, k⟩ => by
  rcases r with z | ds
  · exact R0.dE1 e k
  obtain ⟨x, n1, e1, h⟩ := M.bind_ok e
  obtain ⟨h1, h2⟩ := M.opt_ok h
  subst h2
  refine ⟨fr, F, ρ, n, .ok x, _, R0, e1, fun F1 H1 v R1 s1 d1 => ?_⟩
  unfold dItems at h1
  split at h1
  · cases h1
    cases d1 with
    | tup q1 q2 => exact ⟨_, rfl, .inr ⟨⟨_, R1.core.sub.sqT q1⟩, k F1 H1 _ R1 s1 (it_tup q1 q2)⟩⟩
  · cases h1
    cases d1 with
    | lst q1 q2 => exact ⟨_, rfl, .inl ⟨⟨_, SqL.of (R1.core.sub _ _ q1)⟩, k F1 H1 _ R1 s1 (it_list q1 q2)⟩⟩
  · cases h1
  · cases h1
/-- range -/
def rngD (lo hi : Int) : List D := (List.range (hi - lo).toNat).map fun i => .int (lo + (i : Nat))
theorem it_rng {K : PySem.W.Frag} {dr : Option Addr} {F0 : Hp} {lo hi : Int} : ItOk K W dr F0 (Itr lo (hi - lo).toNat) (rngD lo hi) := fun fr F H σ ρ n i edr R s => by
  have hl : (rngD lo hi).length = (hi - lo).toNat := by simp [rngD]
  refine ⟨fun d e => ?_, fun e => by show (hi - lo).toNat ≤ i; rw [e, hl]; exact Nat.le_refl _⟩
  have hi' : i < (hi - lo).toNat := by
    have := (List.getElem?_eq_some_iff.mp e).1
    omega
  refine ⟨hi', fun x H' ⟨q1, q2⟩ => ?_⟩
  subst q1 q2
  refine ⟨F, R, Sub.refl _, ?_⟩
  have : d = .int (lo + (i : Nat)) := by
    simp [rngD, hi'] at e
    exact e.symm
  rw [this]
  exact .int _
def small62 (i : Int) : Bool := decide (-(2 ^ 62) ≤ i) && decide (i < 2 ^ 62)
theorem small62_ok {i : Int} (h : small62 i = true) : -(2 ^ 62) ≤ i ∧ i < 2 ^ 62 := by
  unfold small62 at h
  simp only [Bool.and_eq_true, decide_eq_true_eq] at h
  exact h
def dRng1 : List D → Option (List D)
  | [.int j] => if small62 j then some (rngD 0 j) else none
  | _ => none
def dRng2 : List D → Option (List D)
  | [.int i, .int j] => if small62 i && small62 j then some (rngD i j) else none
  | _ => none
def iRng1D (f : EXs) : IX := fun ρ => M.bind (f ρ) fun ds => M.opt (dRng1 ds)
def iRng2D (f : EXs) : IX := fun ρ => M.bind (f ρ) fun ds => M.opt (dRng2 ds)
theorem i_rng1 {tg a : Expr} {f : EXs} {p pos : Pos} (hg : Gl X "range") (hm : X.mg "range" = none) (ha : PDs X W [a] f) (hs : starEach [a] X.env = [(false, eval a X.env)] := by rfl) : PDI X W tg (.Call (.Name "range" p) [a] [] pos) (iRng1D f) := imp_I (pi_range1 hg hm ha hs) fun σ H R ⟨fr, F, ρ, n, r, n', R0, e, k⟩ => by
  rcases r with z | ds
  · exact R0.dsE1 e k
  obtain ⟨x, n1, e1, h⟩ := M.bind_ok e
  obtain ⟨h1, h2⟩ := M.opt_ok h
  subst h2
  refine ⟨fr, F, ρ, n, .ok x, _, R0, e1, fun F1 H1 vs R1 s1 d1 => ?_⟩
  unfold dRng1 at h1
  split at h1
  · split at h1
    · rename_i j q
      cases h1
      cases d1 with
      | cons q1 q2 =>
        cases q2; cases q1
        obtain ⟨a1, a2⟩ := small62_ok q
        refine ⟨_, rfl, a1, a2, k F1 H1 _ R1 s1 ?_⟩
        have := it_rng (K := X.K) (W := W) (dr := fr.dr) (F0 := F1) (lo := 0) (hi := j)
        rw [Int.sub_zero] at this
        exact this
    · cases h1
  · cases h1
theorem i_rng2 {tg a b : Expr} {f : EXs} {p pos : Pos} (hg : Gl X "range") (hm : X.mg "range" = none) (ha : PDs X W [a, b] f) (hs : starEach [a, b] X.env = [(false, eval a X.env), (false, eval b X.env)] := by rfl) (hs2 : starEach [b] X.env = [(false, eval b X.env)] := by rfl) : PDI X W tg (.Call (.Name "range" p) [a, b] [] pos) (iRng2D f) := imp_I (pi_range2 hg hm ha hs hs2) fun σ H R ⟨fr, F, ρ, n, r, n', R0, e, k⟩ => by
  rcases r with z | ds
  · exact R0.dsE1 e k
  obtain ⟨x, n1, e1, h⟩ := M.bind_ok e
  obtain ⟨h1, h2⟩ := M.opt_ok h
  subst h2
  refine ⟨fr, F, ρ, n, .ok x, _, R0, e1, fun F1 H1 vs R1 s1 d1 => ?_⟩
  unfold dRng2 at h1
  split at h1
  · split at h1
    · rename_i i j q
      cases h1
      rw [Bool.and_eq_true] at q
      cases d1 with
      | cons q1 q2 =>
        cases q2 with
        | cons q3 q4 =>
          cases q4; cases q1; cases q3
          obtain ⟨a1, a2⟩ := small62_ok q.1
          obtain ⟨a3, a4⟩ := small62_ok q.2
          exact ⟨_, _, rfl, ⟨a1, a2, a3, a4⟩, k F1 H1 _ R1 s1 it_rng⟩
    · cases h1
  · cases h1

/-! ### for -/
def forD (g : GX) (body : SX) : List D → SX
  | [] => fun ρ => M.pure (.nx ρ)
  | d :: ds => fun ρ => M.bind (M.opt (g d ρ)) fun ρ1 => M.bind (body ρ1) fun o => match o with
    | .nx ρ2 => forD g body ds ρ2
    | .ct ρ2 => forD g body ds ρ2
    | .bk ρ2 => M.pure (.nx ρ2)
    | .ret d => M.pure (.ret d)
def sFor (g : GX) (it : IX) (body : SX) : SX := fun ρ => M.bind (it ρ) fun ds => forD g body ds ρ
theorem S_for {tg iter : Expr} {b : List Stmt} {t : TG} {g : GX} {it : IX} {body : SX} {pos : Pos} (hp : PassesOwn (model X.prog X.w) X.A X.env X.xe) (hc : X.calm = true) (hi : PDI X W tg iter it) (ht : PG X tg t) {is : List Nat} (hg : GOk X.K W t g is) (hb : PDSs X W b body)
    (hs : ∀ x, foldedSetIterable iter X.env x = pure x := by intro _; rfl) : PDS X W (.For tg iter b [] pos) (sFor g it body) := imp_S (ps_for hp hc hi ht hb hs) fun E σ H ⟨fr, F, ρ, n, r, n', R, e, k⟩ => by
  rcases M.bind_any e with ⟨z, e1, rfl⟩ | ⟨ds, n1, e1, h⟩
  · exact ⟨fr, F, ρ, n, .error z, n', R, e1, KS.x k⟩
  refine ⟨fr, F, ρ, n, .ok ds, n1, R, e1, fun F1 H1 J R1 s1 ok => ?_⟩
  refine ⟨fun i m σ' H' => m = ds.length - i ∧ i ≤ ds.length ∧ ∃ F' ρ' n'', Rel X.K W fr F' H' σ' ρ' n'' ∧ Sub F1 F' ∧ forD g body (ds.drop i) ρ' n'' = some (r, n'), ⟨ds.length, by simp, Nat.zero_le _, F1, ρ, n1, R1, Sub.refl _, h⟩, ?_⟩
  rintro i m σ2 H2 ⟨rfl, hi, F2, ρ2, n2, R2, s2, e2⟩
  by_cases hlt : i < ds.length
  · refine .inr ?_
    rw [List.drop_eq_getElem_cons hlt] at e2
    rcases M.bind_any e2 with ⟨z, e3, rfl⟩ | ⟨ρ3, n3, e3, h3⟩
    · exact (M.opt_err e3).elim
    obtain ⟨e4, e5⟩ := M.opt_ok e3
    subst e5
    obtain ⟨g1, g2⟩ := (ok fr F2 H2 σ2 ρ2 _ i rfl R2 s2).1 ds[i] (by simp [hlt])
    refine ⟨g1, fun σ' H' => ∃ F' ρ' n'', Rel X.K W fr F' H' σ' ρ' n'' ∧ Sub F1 F' ∧ forD g body (ds.drop (i + 1)) ρ' n'' = some (r, n'), fun σ' H' ⟨F', ρ', n'', a1, a2, a3⟩ => ⟨_, by omega, rfl, hlt, F', ρ', n'', a1, a2, a3⟩, fun x H' y => ?_⟩
    obtain ⟨F3, R3, s3, d3⟩ := g2 x H' y
    refine hg fr F3 H' σ2 ρ2 ρ3 _ x _ _ R3 d3 e4 fun σ3 R4 _ => ?_
    rcases M.bind_any h3 with ⟨z, e6, rfl⟩ | ⟨o1, n4, e6, h4⟩
    · exact ⟨fr, F3, ρ3, _, .error z, n', R4, e6, KS.mono k ((s1.trans s2).trans s3)⟩
    refine ⟨fr, F3, ρ3, _, .ok o1, n4, R4, e6, ?_⟩
    cases o1 with
    | nx ρ5 => exact fun F5 H5 σ5 R5 s5 => ⟨F5, ρ5, n4, R5, (s2.trans s3).trans s5, h4⟩
    | ct ρ5 => exact fun F5 H5 σ5 R5 s5 => ⟨F5, ρ5, n4, R5, (s2.trans s3).trans s5, h4⟩
    | bk ρ5 =>
      obtain ⟨a1, a2⟩ := M.pure_any h4
      subst a1 a2
      exact fun F5 H5 σ5 R5 s5 => k F5 H5 σ5 R5 ((((s1.trans s2).trans s3)).trans s5)
    | ret d =>
      obtain ⟨a1, a2⟩ := M.pure_any h4
      subst a1 a2
      exact fun F5 H5 v c5 s5 d5 => k F5 H5 v c5 ((((s1.trans s2).trans s3)).trans s5) d5
  · have ei : i = ds.length := by omega
    refine .inl ⟨(ok fr F2 H2 σ2 ρ2 _ i rfl R2 s2).2 ei, ?_⟩
    rw [ei, List.drop_length] at e2
    obtain ⟨a1, a2⟩ := M.pure_any e2
    subst a1 a2
    exact k F2 H2 σ2 R2 (s1.trans s2)

/-! ### while, with so many turns at most -/
def whileD (t : TX) (body : SX) : Nat → SX
  | 0 => fun _ => M.opt none
  | m + 1 => fun ρ => M.bind (t ρ) fun b => match b with
    | false => M.pure (.nx ρ)
    | true => M.bind (body ρ) fun o => match o with
      | .nx ρ2 => whileD t body m ρ2
      | .ct ρ2 => whileD t body m ρ2
      | .bk ρ2 => M.pure (.nx ρ2)
      | .ret d => M.pure (.ret d)
def sWhile (m : Env → Nat) (t : TX) (body : SX) : SX := fun ρ => whileD t body (m ρ) ρ
theorem S_while {c : Expr} {b : List Stmt} {t : TX} {body : SX} {pos : Pos} (m : Env → Nat) (hp : PassesOwn (model X.prog X.w) X.A X.env X.xe) (hc : PDT X W c t) (hb : PDSs X W b body) : PDS X W (.While c b [] pos) (sWhile m t body) := imp_S (ps_while hp hc hb) fun E σ H ⟨fr, F, ρ, n, r, n', R, e, k⟩ => by
  refine ⟨fun j σ' H' => ∃ F' ρ' n'', Rel X.K W fr F' H' σ' ρ' n'' ∧ Sub F F' ∧ whileD t body j ρ' n'' = some (r, n'), ⟨m ρ, F, ρ, n, R, Sub.refl _, e⟩, ?_⟩
  rintro j σ1 H1 ⟨F1, ρ1, n1, R1, s1, e1⟩
  cases j with
  | zero =>
    rw [whileD] at e1
    obtain ⟨_, q⟩ := M.opt_any e1
    cases q
  | succ j =>
    rcases M.bind_any e1 with ⟨z, e2, rfl⟩ | ⟨bb, n2, e2, h2⟩
    · exact ⟨fr, F1, ρ1, n1, .error z, n', R1, e2, KX.mono (KS.x k) s1⟩
    refine ⟨fr, F1, ρ1, n1, .ok bb, n2, R1, e2, fun F2 H2 R2 s2 => ?_⟩
    cases bb with
    | false =>
      obtain ⟨a1, a2⟩ := M.pure_any h2
      subst a1 a2
      rw [if_neg Bool.false_ne_true]
      exact k F2 H2 σ1 R2 (s1.trans s2)
    | true =>
      rw [if_pos rfl]
      refine ⟨fun σ' H' => ∃ F' ρ' n'', Rel X.K W fr F' H' σ' ρ' n'' ∧ Sub F F' ∧ whileD t body j ρ' n'' = some (r, n'), fun σ' H' q => ⟨j, Nat.lt_succ_self _, q⟩, ?_⟩
      rcases M.bind_any h2 with ⟨z, e6, rfl⟩ | ⟨o1, n4, e6, h4⟩
      · exact ⟨fr, F2, ρ1, n2, .error z, n', R2, e6, KS.mono k (s1.trans s2)⟩
      refine ⟨fr, F2, ρ1, n2, .ok o1, n4, R2, e6, ?_⟩
      cases o1 with
      | nx ρ5 => exact fun F5 H5 σ5 R5 s5 => ⟨F5, ρ5, n4, R5, (s1.trans s2).trans s5, h4⟩
      | ct ρ5 => exact fun F5 H5 σ5 R5 s5 => ⟨F5, ρ5, n4, R5, (s1.trans s2).trans s5, h4⟩
      | bk ρ5 =>
        obtain ⟨a1, a2⟩ := M.pure_any h4
        subst a1 a2
        exact fun F5 H5 σ5 R5 s5 => k F5 H5 σ5 R5 ((s1.trans s2).trans s5)
      | ret d =>
        obtain ⟨a1, a2⟩ := M.pure_any h4
        subst a1 a2
        exact fun F5 H5 v c5 s5 d5 => k F5 H5 v c5 ((s1.trans s2).trans s5) d5

/-! ### comprehensions -/
def wipeD (ρ : Env) : List Nat → Env
  | [] => ρ
  | v :: vs => (wipeD ρ vs).set v .no
theorem wipeD_length (ρ : Env) : ∀ vs, (wipeD ρ vs).length = ρ.length
  | [] => rfl
  | v :: vs => by unfold wipeD; rw [List.length_set, wipeD_length ρ vs]
theorem Rel.wipe1 {K : PySem.W.Frag} {fr : Fr} {F H : Hp} {σ : St} {ρ : Env} {n : Int} (r : Rel K W fr F H σ ρ n) (i : Nat) : Rel K W fr F H (σ.set i none) (ρ.set i .no) n := by
  obtain ⟨ad, s⟩ := r.slots
  have nd : ∀ {j : Nat} {e : Sl}, e ≠ .no → (ρ.set i Sl.no)[j]? = some e → i ≠ j ∧ ρ[j]? = some e := fun {j e} ne q => by
    by_cases hj : i = j
    · subst hj
      by_cases hi : i < ρ.length
      · rw [get_set_self hi] at q; cases q; exact absurd rfl ne
      · rw [List.getElem?_eq_none (by simpa using hi)] at q; cases q
    · rw [List.getElem?_set_ne hj] at q; exact ⟨hj, q⟩
  refine ⟨r.core, ad, by simp [s.len], fun j e q => ?_, fun j e q => ?_, fun j k e e' q q' => ?_⟩
  · obtain ⟨hj, q⟩ := nd (by simp) q
    obtain ⟨v, h1, h2⟩ := s.val j e q
    exact ⟨v, by rw [List.getElem?_set_ne hj]; exact h1, h2⟩
  · obtain ⟨hj, q⟩ := nd (by simp) q
    obtain ⟨h1, h2⟩ := s.own j e q
    exact ⟨by rw [List.getElem?_set_ne hj]; exact h1, h2⟩
  · exact s.inj j k e e' (nd (by simp) q).2 (nd (by simp) q').2
theorem Rel.wipe {K : PySem.W.Frag} {fr : Fr} {F H : Hp} {σ : St} {ρ : Env} {n : Int} (r : Rel K W fr F H σ ρ n) : ∀ vs, Rel K W fr F H (wipe σ vs) (wipeD ρ vs) n
  | [] => r
  | v :: vs => by unfold L2.wipe wipeD; exact (Rel.wipe r vs).wipe1 v
/-- one's own, out of sight -/
def hide : Env → Env
  | [] => []
  | .own _ :: r => .no :: hide r
  | .no :: r => .no :: hide r
  | .val d :: r => .val d :: hide r
theorem hide_length : ∀ ρ : Env, (hide ρ).length = ρ.length
  | [] => rfl
  | .own _ :: r => by simp [hide, hide_length r]
  | .no :: r => by simp [hide, hide_length r]
  | .val _ :: r => by simp [hide, hide_length r]
theorem hide_get : ∀ (ρ : Env) (i : Nat) (e : Sl), (hide ρ)[i]? = some e → e ≠ .no → ρ[i]? = some e ∧ ∃ d, e = .val d
  | [], _, _, h, _ => by simp [hide] at h
  | .own d :: r, 0, e, h, ne => by simp [hide] at h; exact absurd h.symm ne
  | .no :: r, 0, e, h, ne => by simp [hide] at h; exact absurd h.symm ne
  | .val d :: r, 0, e, h, ne => by simp [hide] at h; exact ⟨by simp [h], d, h.symm⟩
  | .own d :: r, i + 1, e, h, ne => by simp [hide] at h; simpa using hide_get r i e h ne
  | .no :: r, i + 1, e, h, ne => by simp [hide] at h; simpa using hide_get r i e h ne
  | .val d :: r, i + 1, e, h, ne => by simp [hide] at h; simpa using hide_get r i e h ne
/-- a new run from here, with what is one's own out of sight -/
theorem Rel.inner {K : PySem.W.Frag} {fr : Fr} {F H : Hp} {σ : St} {ρ : Env} {n : Int} (r : Rel K W fr F H σ ρ n) : Rel K W (fr.at F H) F H σ (hide ρ) n := by
  obtain ⟨ad, s⟩ := r.slots
  refine ⟨r.core.at, ad, by rw [hide_length]; exact s.len, fun j e q => ?_, fun j e q => ?_, fun j k e e' q q' => ?_⟩
  · exact s.val j e (hide_get ρ j _ q (by simp)).1
  · obtain ⟨d, hd⟩ := (hide_get ρ j _ q (by simp)).2
    cases hd
  · obtain ⟨d, hd⟩ := (hide_get ρ j _ q (by simp)).2
    cases hd
/-- D is no one's own -/
def NoOwn (p : Addr) (σ : St) (ρ : Env) : Prop := ∀ (i : Nat) (d : D), ρ[i]? = some (Sl.own d) → σ[i]? ≠ some (some (.ref p))
theorem Rel.noOwn {K : PySem.W.Frag} {fr : Fr} {F H : Hp} {σ : St} {ρ : Env} {n : Int} (r : Rel K W fr F H σ ρ n) {p : Addr} (hp : H p = none) : NoOwn p σ ρ := fun i d e q => by
  obtain ⟨ad, s⟩ := r.slots
  obtain ⟨h1, _, _, _, h5, _⟩ := s.own i d e
  obtain ⟨o, ho⟩ := h5.there
  rw [h1] at q
  cases q
  rw [hp] at ho; cases ho
theorem Rel.other {K : PySem.W.Frag} {fr : Fr} {F H : Hp} {σ : St} {ρ : Env} {n : Int} (r : Rel K W fr F H σ ρ n) {p : Addr} {o : HO} (h1 : F p = none) (h2 : fr.H0 p = none) (h3 : fr.dr ≠ some p) (h4 : NoOwn p σ ρ) (h5 : ∀ u, H p = some u → ¬ Sd u) : Rel K W fr F (upd H p o) σ ρ n := by
  obtain ⟨ad, s⟩ := r.slots
  have c := r.core
  refine ⟨?_, ad, s.len, s.val, fun j e q => ?_, s.inj⟩
  · exact {
      sub := fun a u q => by rw [upd_ne (ne_of_none q h1)]; exact c.sub _ _ q
      base := fun a u q q2 q3 => by rw [upd_ne (ne_of_none q h2)]; exact c.base a u q q2 q3
      f0 := c.f0
      new := c.new
      there := fun a u q => by rw [upd_ne (ne_of_none q h2)]; exact c.there a u q
      draw := fun a e => by
        obtain ⟨q1, q2, q3⟩ := c.draw a e
        have ne : a ≠ p := fun z => h3 (by rw [← z]; exact e)
        exact ⟨q1, by rw [upd_ne ne]; exact q2, q3⟩
      ntF := c.ntF
      tabs := tabs_keep c.tabs fun a u q sd => by
        have ne : a ≠ p := fun z => by subst z; exact h5 u q sd
        rw [upd_ne ne]; exact q }
  · obtain ⟨q1, q2, q3, q4, q5, q6⟩ := s.own j e q
    have ne : ad j ≠ p := fun z => h4 j e q (by rw [q1, z])
    exact ⟨q1, q2, q3, q4, q5.mono (Sub.refl _) (fun u z => by rw [upd_ne ne]; exact z), q6⟩
theorem Rel.addF {K : PySem.W.Frag} {fr : Fr} {F H : Hp} {σ : St} {ρ : Env} {n : Int} (r : Rel K W fr F H σ ρ n) {p : Addr} {o : HO} (h0 : H p = some o) (h1 : F p = none) (h2 : fr.H0 p = none) (h3 : fr.dr ≠ some p) (h4 : NoOwn p σ ρ) (ho : NT o := by (intro _ h; cases h)) : Sub F (upd F p o) ∧ Rel K W fr (upd F p o) H σ ρ n := by
  obtain ⟨ad, s⟩ := r.slots
  have c := r.core
  have up : Sub F (upd F p o) := fun a u q => by rw [upd_ne (ne_of_none q h1)]; exact q
  refine ⟨up, ?_, ad, s.len, fun j e q => ?_, fun j e q => ?_, s.inj⟩
  · exact {
      sub := fun a u q => by
        by_cases e : a = p
        · rw [e, upd_same] at q; rw [e, h0]; exact q
        · rw [upd_ne e] at q; exact c.sub _ _ q
      base := c.base
      f0 := c.f0.trans up
      new := fun a u q q2 => by rw [upd_ne (ne_of_none q h2)]; exact c.new a u q q2
      there := c.there
      draw := fun a e => by
        obtain ⟨q1, q2, q3⟩ := c.draw a e
        have ne : a ≠ p := fun z => h3 (by rw [← z]; exact e)
        exact ⟨by rw [upd_ne ne]; exact q1, q2, up.sqL q3⟩
      ntF := fun a u q => by
        by_cases e : a = p
        · rw [e, upd_same] at q; cases q; exact ho
        · rw [upd_ne e] at q; exact c.ntF a u q
      tabs := c.tabs }
  · obtain ⟨v, q1, q2⟩ := s.val j e q
    exact ⟨v, q1, q2.mono up fun _ z => z⟩
  · obtain ⟨q1, q2, q3, q4, q5, q6⟩ := s.own j e q
    have ne : ad j ≠ p := fun z => h4 j e q (by rw [q1, z])
    exact ⟨q1, by rw [upd_ne ne]; exact q2, q3, q4, q5.mono up fun _ z => z, q6⟩

def compD (body : D → M (Option D)) : List D → M (List D)
  | [] => M.pure []
  | d :: ds => M.bind (body d) fun y => M.bind (compD body ds) fun ys => M.pure (match y with | some z => z :: ys | none => ys)
def compB (vs : List Nat) (g : GX) (t : TX) (f : EX) (ρ : Env) (d : D) : M (Option D) := M.bind (M.opt (g d (hide (wipeD ρ vs)))) fun ρ1 => M.bind (t ρ1) fun b => match b with
  | true => M.bind (f ρ1) fun y => M.pure (some y)
  | false => M.pure none
def eComp (vs : List Nat) (g : GX) (it : IX) (t : TX) (f : EX) : EX := fun ρ => M.bind (it ρ) fun ds => M.bind (M.calm (compD (compB vs g t f ρ) ds)) fun ys => M.opt (mkLst ys)
def tYesD : TX := fun _ => M.pure true
/-- what is not to raise -/
def tDk (K : PySem.W.Frag) (W : Wd) (f : EX) : TE := fun σ H Q => ∃ fr F ρ n d n', Rel K W fr F H σ ρ n ∧ f ρ n = some (.ok d, n') ∧
  ∀ F' H' v, Rel K W fr F' H' σ ρ n' → Sub F F' → Den K W fr.dr F' v d → Q v H'
def tTk (K : PySem.W.Frag) (W : Wd) (f : TX) : TT := fun σ H Q => ∃ fr F ρ n b n', Rel K W fr F H σ ρ n ∧ f ρ n = some (.ok b, n') ∧
  ∀ F' H', Rel K W fr F' H' σ ρ n' → Sub F F' → Q b H'
theorem dk {e : Expr} {f : EX} (h : PD X W e f) : PE X e (tDk X.K W f) := imp_E h fun σ H Q ⟨fr, F, ρ, n, d, n', R, e, k⟩ => ⟨fr, F, ρ, n, .ok d, n', R, e, k⟩
theorem tsk {es : List Expr} {f : TX} (h : PTs X es (tT X W f)) : PTs X es (tTk X.K W f) := ⟨fun pins s σ H Q I ⟨fr, F, ρ, n, d, n', R, e, k⟩ => h.run pins s σ H Q I ⟨fr, F, ρ, n, .ok d, n', R, e, k⟩⟩
theorem ts_nil : PTs X [] (tT X W tYesD) := by
  refine ⟨fun pins s σ H Q I ⟨fr, F, ρ, n, r, n', R, e, k⟩ => ?_⟩
  rcases r with z | b
  · exact (M.pure_err e).elim
  obtain ⟨h1, h2⟩ := M.pure_ok e
  subst h1 h2
  exact pts_nil.run pins s σ H Q I (k F H R (Sub.refl _))
theorem ts_one {c : Expr} {t : TX} (h : PDT X W c t) : PTs X [c] (tT X W t) := pts_one h
theorem d_tLc {vs : List Nat} {tg : TG} {g : GX} {is : List Nat} {it : IX} {t : TX} {f : EX} (hg : GOk X.K W tg g is) (hv : ∀ i ∈ is, i ∈ vs) {σ : St} {H : Hp} {Q : VK} (h : tD X W (eComp vs g it t f) σ H Q) : tLc (tI X W it) tg (tTk X.K W t) (tDk X.K W f) vs σ H Q := by
  obtain ⟨fr, F, ρ, n, r, n', R, e, k⟩ := h
  rcases r with z | d
  · rcases M.bind_err e with e1 | ⟨ds, n1, e1, h⟩
    · exact ⟨fr, F, ρ, n, .error z, n', R, e1, k⟩
    · rcases M.bind_err h with h | ⟨_, _, _, h⟩
      · exact (M.calm_err h).elim
      · exact (M.opt_err h).elim
  obtain ⟨ds, n1, e1, ha⟩ := M.bind_ok e
  obtain ⟨zs, n2, e2, hb⟩ := M.bind_ok ha
  obtain ⟨e3, e4⟩ := M.opt_ok hb
  replace e2 := M.calm_ok e2
  obtain ⟨e5, hz⟩ := mkLst_ok e3
  clear ha hb e3
  subst e4 e5
  refine ⟨fr, F, ρ, n, .ok ds, n1, R, e1, fun F1 H1 J R1 s1 ok => fun p hp => ?_⟩
  refine ⟨fun i m H' => m = ds.length - i ∧ i ≤ ds.length ∧ ∃ F' n'' acc dacc ys, Rel X.K W fr F' H' σ ρ n'' ∧ Sub F1 F' ∧ F' p = none ∧ H' p = some (.lst acc) ∧ Dens X.K W fr.dr F' acc dacc ∧ compD (compB vs g t f ρ) (ds.drop i) n'' = some (.ok ys, n') ∧ zs = dacc ++ ys,
    ⟨ds.length, by simp, Nat.zero_le _, F1, n1, [], [], zs, ?_, Sub.refl _, R1.core.noF hp, upd_same, .nil, e2, rfl⟩, ?_⟩
  · exact R1.other (R1.core.noF hp) (R1.core.noH0 hp) (R1.core.ndr hp) (R1.noOwn hp) (sd_no hp)
  have hH0 := R1.core.noH0 hp
  have hdr := R1.core.ndr hp
  have hno := R1.noOwn hp
  rintro i m H2 ⟨rfl, hi, F2, m2, acc, dacc, ys, R2, s2, f2, a2, d2, c2, q2⟩
  have RI : Rel X.K W (fr.at F2 H2) F2 H2 (wipe σ vs) (hide (wipeD ρ vs)) m2 := (R2.wipe vs).inner
  by_cases hlt : i < ds.length
  · refine .inr ?_
    rw [List.drop_eq_getElem_cons hlt] at c2
    obtain ⟨y, n3, c3, hc⟩ := M.bind_ok c2
    obtain ⟨yr, n4, c4, hd⟩ := M.bind_ok hc
    obtain ⟨c5, c6⟩ := M.pure_ok hd
    clear hc hd
    subst c6
    obtain ⟨ρ1, n5, b1, hb1⟩ := M.bind_ok c3
    obtain ⟨b2, b3⟩ := M.opt_ok b1
    obtain ⟨b, n6, b4, hb2⟩ := M.bind_ok hb1
    clear hb1 b1 c3
    subst b3
    obtain ⟨g1, g2⟩ := (ok (fr.at F2 H2) F2 H2 _ _ _ i rfl RI s2).1 ds[i] (by simp [hlt])
    refine ⟨g1, fun H' => ∃ F' n'' acc dacc ys, Rel X.K W fr F' H' σ ρ n'' ∧ Sub F1 F' ∧ F' p = none ∧ H' p = some (.lst acc) ∧ Dens X.K W fr.dr F' acc dacc ∧ compD (compB vs g t f ρ) (ds.drop (i + 1)) n'' = some (.ok ys, _) ∧ zs = dacc ++ ys, fun H' q => ⟨_, by omega, rfl, hlt, q⟩, fun x H' yl => ?_⟩
    obtain ⟨F3, R3, s3, d3⟩ := g2 x H' yl
    refine hg (fr.at F2 H2) F3 H' _ _ ρ1 _ x _ _ R3 d3 b2 fun σ3 R4 w4 => ⟨(w4 vs hv).trans (wipe_wipe σ vs), ?_⟩
    refine ⟨fr.at F2 H2, F3, ρ1, _, b, n6, R4, b4, fun F5 H5 R5 s5 => ?_⟩
    cases b with
    | true =>
      rw [if_pos rfl]
      obtain ⟨z, n7, b5, hb3⟩ := M.bind_ok hb2
      obtain ⟨b6, b7⟩ := M.pure_ok hb3
      clear hb2 hb3
      subst b6 b7
      refine ⟨fr.at F2 H2, F5, ρ1, n6, z, _, R5, b5, fun F6 H6 v R6 s6 d6 => ?_⟩
      have a6 : H6 p = some (.lst acc) := R6.core.base p _ (mask_of a2) hdr fun z => z
      have f6 : F6 p = none := R6.core.new p _ (mask_of a2) f2
      have s26 : Sub F2 F6 := R6.core.f0
      refine ⟨acc, a6, ?_, F6, _, acc ++ [v], dacc ++ [z], yr, (R2.back R6.core).other f6 hH0 hdr hno (sd_of a6), s2.trans s26, f6, upd_same, (d2.mono s26 fun _ z => z).append (.cons d6 .nil), c4, ?_⟩
      · have l1 := d2.length
        have l2 : zs.length = dacc.length + ys.length := by rw [q2, List.length_append]
        have l3 : ys.length = yr.length + 1 := by rw [← c5]; simp
        omega
      · rw [q2, ← c5]; simp
    | false =>
      rw [if_neg Bool.false_ne_true]
      obtain ⟨b6, b7⟩ := M.pure_ok hb2
      clear hb2
      subst b6 b7
      have a6 : H5 p = some (.lst acc) := R5.core.base p _ (mask_of a2) hdr fun z => z
      have f6 : F5 p = none := R5.core.new p _ (mask_of a2) f2
      have s26 : Sub F2 F5 := R5.core.f0
      exact ⟨F5, _, acc, dacc, yr, R2.back R5.core, s2.trans s26, f6, a6, d2.mono s26 fun _ z => z, c4, by rw [q2, ← c5]⟩
  · have ei : i = ds.length := by omega
    refine .inl ⟨(ok (fr.at F2 H2) F2 H2 _ _ _ i rfl RI s2).2 ei, ?_⟩
    rw [ei, List.drop_length] at c2
    obtain ⟨a1, a3⟩ := M.pure_ok c2
    subst a1 a3
    obtain ⟨u1, R7⟩ := R2.addF a2 f2 hH0 hdr hno
    exact k _ H2 _ R7 ((s1.trans s2).trans u1) (.lst upd_same (by rw [q2, List.append_nil]; exact d2.mono u1 fun _ z => z))
/-- [elt for tg in iter if ..] -/
theorem d_comp {vs : List Nat} {elt tg iter : Expr} {ifs : List Expr} {scope : Scope} {own : List (Str × Nat)} {pos : Pos} {t : TG} {g : GX} {is : List Nat} {it : IX} {tt : TX} {f : EX} (hc : X.calm = true) (hN : X.N.Nodup) (hi : PDI X W tg iter it) (ok : BlkOk X.N X.env.scope scope own)
    (hg : ∀ (s : Shared) (H : Hp) (C : Addr) (cl : List (Str × Addr)) (fp : List Addr), PG (X.blk s H scope (compEnvC scope cl C X.env) fp) tg t) (hq : GOk X.K W t g is) (hv : ∀ i ∈ is, i ∈ vs)
    (ht : ∀ (s : Shared) (H : Hp) (C : Addr) (cl : List (Str × Addr)) (fp : List Addr), PTs (X.blk s H scope (compEnvC scope cl C X.env) fp) ifs (tT (X.blk s H scope (compEnvC scope cl C X.env) fp) W tt))
    (he : ∀ (s : Shared) (H : Hp) (C : Addr) (cl : List (Str × Addr)) (fp : List Addr), PD (X.blk s H scope (compEnvC scope cl C X.env) fp) W elt f) (hs : ∀ x, foldedSetIterable iter X.env x = pure x := by intro _; rfl) (hvs : own.map (·.2) = vs := by rfl) :
    PD X W (.ListComp elt [⟨tg, iter, ifs, 0⟩] scope pos) (eComp vs g it tt f) := by
  subst hvs
  exact imp_E (pe_lc (tt := tTk X.K W tt) (te := tDk X.K W f) hc hN hi ok hg (fun s H C cl fp => tsk (ht s H C cl fp)) (fun s H C cl fp => dk (he s H C cl fp)) hs) fun _ _ _ h => d_tLc hq hv h
/-- y = [elt for ..], one line -/
theorem S_setComp {vs : List Nat} {i : Nat} {y : Str} {py : Pos} {elt tg iter : Expr} {ifs : List Expr} {scope : Scope} {own : List (Str × Nat)} {pos spos : Pos} {t : TG} {g : GX} {is : List Nat} {it : IX} {tt : TX} {f : EX} (hc : X.calm = true) (hN : X.N.Nodup) (hy : X.N[i]? = some y) (hyl : X.env.scope.names.lookup y = some .local)
    (hsw : swapsWith (.ListComp elt [⟨tg, iter, ifs, 0⟩] scope pos) (some (.Name y py)) spos.line X.env = pure true) (hi : PDI X W tg iter it) (ok : BlkOk X.N X.env.scope scope own)
    (hg : ∀ (s : Shared) (H : Hp) (C : Addr) (cl : List (Str × Addr)) (fp : List Addr), PG (X.blk s H scope (compEnvC scope cl C X.env) fp) tg t) (hq : GOk X.K W t g is) (hv : ∀ i ∈ is, i ∈ vs)
    (ht : ∀ (s : Shared) (H : Hp) (C : Addr) (cl : List (Str × Addr)) (fp : List Addr), PTs (X.blk s H scope (compEnvC scope cl C X.env) fp) ifs (tT (X.blk s H scope (compEnvC scope cl C X.env) fp) W tt))
    (he : ∀ (s : Shared) (H : Hp) (C : Addr) (cl : List (Str × Addr)) (fp : List Addr), PD (X.blk s H scope (compEnvC scope cl C X.env) fp) W elt f) (hs : ∀ x, foldedSetIterable iter X.env x = pure x := by intro _; rfl) (hvs : own.map (·.2) = vs := by rfl) :
    PDS X W (.Assign [.Name y py] (.ListComp elt [⟨tg, iter, ifs, 0⟩] scope pos) spos) (sAsg (gV i) (eComp vs g it tt f)) := by
  subst hvs
  refine imp_S (ps_setLc (tt := tTk X.K W tt) (te := tDk X.K W f) hc hN hy hyl hsw hi ok hg (fun s H C cl fp => tsk (ht s H C cl fp)) (fun s H C cl fp => dk (he s H C cl fp)) hs) fun E σ H ⟨fr, F, ρ, n, r, n', R, e, k⟩ => ?_
  rcases r with z | o
  · refine d_tLc hq hv (R.dE e (KS.x k) fun _ _ _ _ _ _ h _ _ _ => ?_)
    rcases M.bind_err h with h | ⟨_, _, _, h⟩
    · exact (M.opt_err h).elim
    · exact (M.pure_err h).elim
  obtain ⟨x, n1, e1, ha⟩ := M.bind_ok e
  obtain ⟨ρ', n2, e2, h⟩ := M.bind_ok ha
  obtain ⟨h1, h2⟩ := M.pure_ok h
  obtain ⟨h3, h4⟩ := M.opt_ok e2
  clear ha h
  subst h4
  subst h1 h2
  refine d_tLc hq hv ⟨fr, F, ρ, n, .ok x, _, R, e1, fun F1 H1 v R1 s1 d1 => ?_⟩
  cases h3
  exact k F1 H1 _ (R1.set d1) s1
end
end DL
end

section
set_option Elab.async false
set_option linter.all false
set_option autoImplicit false
set_option maxRecDepth 100000
namespace DL
open PySem PySem.Spec L2
open PyProof.Rows (envOfC)

/-! ### what a def promises -/
theorem fn_okX {P : Program} {w : World} {K : PySem.W.Frag} {mg : Str → Option Value} {base : Heap} {x qual : Str} {st : Stmt} {f : Addr} {fd : FuncData} {N ps : List Str} {k : Nat} {sp : Sp} (F : Fun K x qual st f fd) (S : FnScope N ps (defScope st)) (len : ∀ vs H Q E, sp vs H Q E → vs.length = ps.length)
    (body : ∀ (cdv : Value) (A : Around) (outer : List PySem.Env) (s : Shared) (H : Hp) (vs : List V) (Q : VK) (E : XK), Room k (A.deeper (envOfC qual (defScope st) s.heap.objs.size f cdv)) → sp vs H Q E →
      ∃ t, PSs (cxOf (L2.CX P w) P w K mg base N qual (defScope st) f cdv A outer s H E) (defBody st) t ∧ t { nx := fun _ H' => Q .non H', rt := Q } (L2.start N vs) H) : FnOk P w K mg base (L2.CX P w) (k + 1) f fd ps sp := by
  obtain ⟨oc, od, kV, doc, pm, an, cdv, ct, osl, rfl, lk, hcd⟩ := F.ex
  exact fn_of lk hcd S len fun A outer s H vs Q E hr => body cdv A outer s H vs Q E hr
/-- the code object that a def bears -/
def Cdv (fd : FuncData) (cdv : Value) : Prop := ∃ (x q : Str) (a : Arguments) (b : List Stmt) (sc : Scope) (dd kV doc pm : Value) (an : Option Addr) (ct : Value), fd = PySem.W.fnOf x q a b sc dd kV doc pm an cdv ct
theorem cdv_eq {x q : Str} {a : Arguments} {b : List Stmt} {sc : Scope} {dd kV doc pm : Value} {an : Option Addr} {c ct cdv : Value} (h : Cdv (PySem.W.fnOf x q a b sc dd kV doc pm an c ct) cdv) : cdv = c := by
  obtain ⟨x', q', a', b', sc', dd', kV', doc', pm', an', ct', e⟩ := h
  unfold PySem.W.fnOf at e
  injection e with e1 e2 e3 e4 e5 e6 e7 e8 e9 e10 e11 e12 e13 e14
  first | exact e1.symm | exact e2.symm | exact e3.symm | exact e4.symm | exact e5.symm | exact e6.symm | exact e7.symm | exact e8.symm | exact e9.symm | exact e10.symm | exact e11.symm | exact e12.symm | exact e13.symm | exact e14.symm
theorem fn_okXc {P : Program} {w : World} {K : PySem.W.Frag} {mg : Str → Option Value} {base : Heap} {x qual : Str} {st : Stmt} {f : Addr} {fd : FuncData} {N ps : List Str} {k : Nat} {sp : Sp} (F : Fun K x qual st f fd) (S : FnScope N ps (defScope st)) (len : ∀ vs H Q E, sp vs H Q E → vs.length = ps.length)
    (body : ∀ (cdv : Value), Cdv fd cdv → ∀ (A : Around) (outer : List PySem.Env) (s : Shared) (H : Hp) (vs : List V) (Q : VK) (E : XK), Room k (A.deeper (envOfC qual (defScope st) s.heap.objs.size f cdv)) → sp vs H Q E →
      ∃ t, PSs (cxOf (L2.CX P w) P w K mg base N qual (defScope st) f cdv A outer s H E) (defBody st) t ∧ t { nx := fun _ H' => Q .non H', rt := Q } (L2.start N vs) H) : FnOk P w K mg base (L2.CX P w) (k + 1) f fd ps sp := by
  obtain ⟨oc, od, kV, doc, pm, an, cdv, ct, osl, rfl, lk, hcd⟩ := F.ex
  exact fn_of lk hcd S len fun A outer s H vs Q E hr => body cdv ⟨_, _, _, _, _, _, _, _, _, _, _, rfl⟩ A outer s H vs Q E hr
abbrev FX := List D → M D
/-- what is answered, what is raised -/
def spD (K : PySem.W.Frag) (W : Wd) (f : FX) (m : Nat) : Sp := fun vs H Q E => vs.length = m ∧ ∃ fr F n ds r n', Core K W fr F H n ∧ Dens K W fr.dr F vs ds ∧ f ds n = some (r, n') ∧
  Res (fun d => ∀ F' H' v, Core K W (fr.at F H) F' H' n' → Den K W fr.dr F' v d → Q v H') (fun z => ∀ F' H' cls d, Core K W (fr.at F H) F' H' n' → XDen K W fr.dr F' H' z cls d → E cls d H') r
/-- a body as a function: N names, P parameters -/
def runD (N P : Nat) (g : SX) : FX := fun ds => M.bind (g (ds.map Sl.val ++ List.replicate (N - P) Sl.no)) fun o => match o with
  | .ret d => M.pure d
  | .nx _ => M.pure .non
  | _ => M.opt none
theorem start_rel {K : PySem.W.Frag} {W : Wd} {fr : Fr} {F H : Hp} {n : Int} {N : List Str} {P : Nat} {vs : List V} {ds : List D} (c : Core K W fr F H n) (d : Dens K W fr.dr F vs ds) (hl : vs.length = P) :
    Rel K W (fr.at F H) F H (L2.start N vs) (ds.map Sl.val ++ List.replicate (N.length - P) Sl.no) n := by
  have key : ∀ (i : Nat) (e : Sl), (ds.map Sl.val ++ List.replicate (N.length - P) Sl.no)[i]? = some e → e ≠ .no → ∃ d, ds[i]? = some d ∧ e = .val d := fun i e q ne => by
    by_cases hi : i < ds.length
    · rw [List.getElem?_append_left (by simpa using hi), List.getElem?_map] at q
      cases z : ds[i]? with
      | none => rw [z] at q; cases q
      | some d' => rw [z] at q; cases q; exact ⟨d', rfl, rfl⟩
    · rw [List.getElem?_append_right (by simpa using hi)] at q
      have := List.mem_of_getElem? q
      rw [List.mem_replicate] at this
      exact absurd this.2 ne
  refine ⟨c.at, fun _ => 0, ?_, fun i e q => ?_, fun i e q => ?_, fun i j e e' q q' => ?_⟩
  · unfold L2.start; simp [d.length, ← hl]
  · obtain ⟨d', h1, h2⟩ := key i _ q (by simp)
    cases h2
    obtain ⟨v, h3, h4⟩ := d.get h1
    refine ⟨v, ?_, h4⟩
    unfold L2.start
    have hi := (List.getElem?_eq_some_iff.mp h3).1
    rw [List.getElem?_append_left (by simpa using hi), List.getElem?_map, h3]; rfl
  · obtain ⟨d', h1, h2⟩ := key i _ q (by simp)
    cases h2
  · obtain ⟨d', h1, h2⟩ := key i _ q (by simp)
    cases h2
section
variable {P : Program} {w : World} {K : PySem.W.Frag} {mg : Str → Option Value} {base : Heap} {W : Wd}
/-- a def's body lets out what its callers take -/
theorem acc_of {X : Cx} {E : XK} {E₁ : Value → Shared → Prop} (hs : X.stack = X.env :: X.outer) (hf : X.env.frame = some X.env.locals) (hex : X.ex = [])
    (hx : X.xe = fun e s' => wpAny (model X.prog X.w) X.A (leaving X.env e) (fun _ s'' => L2.CX X.prog X.w X.outer X.H_0 X.s_0 E e s'') E₁ s') {cls : Value} {d : Option Addr} {σ : St} {H : Hp} (h : E cls d H) : Acc X cls d σ H :=
  Acc.of (takes_of hs hf hex hx) h
theorem okD {x qual : Str} {st : Stmt} {f : Addr} {fd : FuncData} {N ps : List Str} {k : Nat} {g : SX} (F : Fun K x qual st f fd) (S : FnScope N ps (defScope st))
    (body : ∀ (cdv : Value) (A : Around) (outer : List PySem.Env) (s : Shared) (H : Hp) (E : XK), Room k (A.deeper (envOfC qual (defScope st) s.heap.objs.size f cdv)) → PDSs (cxOf (L2.CX P w) P w K mg base N qual (defScope st) f cdv A outer s H E) W (defBody st) g) :
    FnOk P w K mg base (L2.CX P w) (k + 1) f fd ps (spD K W (runD N.length ps.length g) ps.length) := by
  refine fn_okX F S (fun vs H Q E h => h.1) fun cdv A outer s H vs Q E hr h => ?_
  obtain ⟨hl, fr, F0, n, ds, r, n', c, dd, e, k⟩ := h
  refine ⟨_, body cdv A outer s H E hr, ?_⟩
  rcases M.bind_any e with ⟨z, e1, rfl⟩ | ⟨o, n1, e1, h1⟩
  · exact ⟨fr.at F0 H, F0, _, n, .error z, n', start_rel c dd hl, e1, fun F' H' σ' cls d c' s' x => acc_of rfl rfl rfl rfl (k F' H' cls d c' x)⟩
  refine ⟨fr.at F0 H, F0, _, n, .ok o, n1, start_rel c dd hl, e1, ?_⟩
  cases o with
  | ret d' =>
    obtain ⟨a1, a2⟩ := M.pure_any h1
    subst a1 a2
    exact fun F' H' v c' s' d' => k F' H' v c' d'
  | nx ρ =>
    obtain ⟨a1, a2⟩ := M.pure_any h1
    subst a1 a2
    exact fun F' H' σ' R' s' => k F' H' _ R'.core .non
  | bk ρ => obtain ⟨_, q⟩ := M.opt_any h1; cases q
  | ct ρ => obtain ⟨_, q⟩ := M.opt_any h1; cases q
end

/-! ### calls -/
section
variable {X : Cx} {W : Wd} {k : Nat} {f C : Addr} {fd : FuncData} {ps : List Str} {x m : Str} {p pos apos : Pos} {e o : Expr} {es : List Expr}
def eCall (fx : FX) (fs : EXs) : EX := fun ρ => M.bind (fs ρ) fx
/-- a callee's wish about what it raises, at the slots -/
def EA (X : Cx) (σ : St) : XK := fun cls d H => Acc X cls d σ H
theorem passEA {σ : St} : PassesAt (L2.CX X.prog X.w) X σ (EA X σ) := passAt takesAcc σ
/-- a callee's end, back at the caller -/
theorem callee_back {fx : FX} {mm : Nat} {fr : Fr} {F F1 H1 : Hp} {σ : St} {ρ : Env} {n1 n' : Int} {ds : List D} {vs : List V} {r : Except Xc D} {Q : VK} (hl : ds.length = mm) (R1 : Rel X.K W fr F1 H1 σ ρ n1) (s1 : Sub F F1) (d1 : Dens X.K W fr.dr F1 vs ds) (h1 : fx ds n1 = some (r, n'))
    (k : Res (fun d => ∀ F' H' v, Rel X.K W fr F' H' σ ρ n' → Sub F F' → Den X.K W fr.dr F' v d → Q v H') (KX X W fr F σ ρ n') r) : spD X.K W fx mm vs H1 Q (EA X σ) := by
  refine ⟨by rw [d1.length]; exact hl, fr, F1, n1, ds, r, n', R1.core, d1, h1, ?_⟩
  cases r with
  | ok d => exact fun F2 H2 v c2 d2 => k F2 H2 v (R1.back c2) (s1.trans c2.f0) d2
  | error z => exact fun F2 H2 cls d c2 x => k F2 H2 cls d (R1.back c2) (s1.trans c2.f0) x
theorem tCall_of {fx : FX} {fs : EXs} {mm : Nat} (hm : ∀ ρ n ds n', fs ρ n = some (.ok ds, n') → ds.length = mm) {σ : St} {H : Hp} {Q : VK} (h : tD X W (eCall fx fs) σ H Q) : tCallS (spD X.K W fx mm) (EA X) (tDs X W fs) σ H Q := by
  obtain ⟨fr, F, ρ, n, r, n', R, e, k⟩ := h
  rcases M.bind_any e with ⟨z, e1, rfl⟩ | ⟨ds, n1, e1, h1⟩
  · exact ⟨fr, F, ρ, n, .error z, n', R, e1, k⟩
  · exact ⟨fr, F, ρ, n, .ok ds, n1, R, e1, fun F1 H1 vs R1 s1 d1 => callee_back (hm _ _ _ _ e1) R1 s1 d1 h1 k⟩
theorem al_nil (ρ : Env) (n : Int) (ds : List D) (n' : Int) (h : eNil ρ n = some (.ok ds, n')) : ds.length = 0 := by
  obtain ⟨a, b⟩ := M.pure_ok h
  subst a; rfl
theorem al_cons {g : EX} {fs : EXs} {mm : Nat} (hm : ∀ ρ n ds n', fs ρ n = some (.ok ds, n') → ds.length = mm) (ρ : Env) (n : Int) (ds : List D) (n' : Int) (h : eCons g fs ρ n = some (.ok ds, n')) : ds.length = mm + 1 := by
  obtain ⟨d, n1, e1, h1⟩ := M.bind_ok h
  obtain ⟨r, n2, e2, h2⟩ := M.bind_ok h1
  obtain ⟨a, b⟩ := M.pure_ok h2
  subst a
  simp [hm _ _ _ _ e2]
theorem d_call {fx : FX} {fs : EXs} {mm : Nat} (F : FnOk X.prog X.w X.K X.mg X.base (L2.CX X.prog X.w) k f fd ps (spD X.K W fx mm)) (hr : Room k X.A) (hg : Gl X x) (hm : X.mg x = some (.ref f)) (hk : PySem.W.keepIn X.K (.ref f) = true) (hb : Binds X.K fd ps [])
    (ha : PDs X W (e :: es) fs) (hl : ∀ ρ n ds n', fs ρ n = some (.ok ds, n') → ds.length = mm) (hdb : (x == ("__debug__" : Str)) = false := by decide) (he : starEach (e :: es) X.env = (false, eval e X.env) :: starEach es X.env := by rfl) (hpl : (backTo pos (starEach es X.env)).any (·.1) = false := by rfl) :
    PD X W (.Call (.Name x p) (e :: es) [] pos) (eCall fx fs) := imp_E (pe_callS (E := EA X) F hr hg hm hk hb (fun _ => passEA) ha hdb he hpl) fun _ _ _ h => tCall_of hl h
theorem d_call0 {fx : FX} (F : FnOk X.prog X.w X.K X.mg X.base (L2.CX X.prog X.w) k f fd ps (spD X.K W fx 0)) (hr : Room k X.A) (hg : Gl X x) (hm : X.mg x = some (.ref f)) (hk : PySem.W.keepIn X.K (.ref f) = true) (hb : Binds X.K fd ps []) (hdb : (x == ("__debug__" : Str)) = false := by decide) :
    PD X W (.Call (.Name x p) [] [] pos) (eCall fx eNil) := by
  refine ⟨fun pins s σ H Q I ⟨fr, G, ρ, n, r, n', R, e, k⟩ => wpAny_Call_Name_kw (ld_glob I hg hm ?_ hdb)⟩
  rcases M.bind_any e with ⟨z, e1, rfl⟩ | ⟨ds, n1, e1, h1⟩
  · exact (M.pure_err e1).elim
  obtain ⟨a, b⟩ := M.pure_ok e1
  subst a b
  have h : spD X.K W fx 0 [] H Q (EA X σ) := callee_back rfl R (Sub.refl _) .nil h1 k
  exact PySem.W.callWith_K0 I.kIn hk (run_fnS (us := []) F hr hb passEA I .nil h)

/-! ### built-ins called by name -/
theorem d_B {r : List V → Hp → VK → Prop} {op : List D → Option D} {id : String} {fs : EXs} (hc : CallR X (.builtin id) r) (hd : CallD X.K W r op) (hg : Gl X x) (hm : X.mg x = none) (hv : bootBuiltins x = some (.builtin id)) (ha : PDs X W (e :: es) fs) (hn : x ≠ "__name__" := by decide) (hdb : (x == ("__debug__" : Str)) = false := by decide)
    (he : starEach (e :: es) X.env = (false, eval e X.env) :: starEach es X.env := by rfl) (hpl : (backTo pos (starEach es X.env)).any (·.1) = false := by rfl) : PD X W (.Call (.Name x p) (e :: es) [] pos) (eB op fs) := imp_E (pe_callB hc hg hm hv ha hn hdb he hpl) fun _ _ _ h => tCB_of hd h
theorem d_Ty {r : List V → Hp → VK → Prop} {op : List D → Option D} {T : String} {fs : EXs} (hc : CallR X (.type T) r) (hd : CallD X.K W r op) (hg : Gl X x) (hm : X.mg x = none) (hv : bootBuiltins x = some (.type T)) (ha : PDs X W (e :: es) fs) (hn : x ≠ "__name__" := by decide) (hdb : (x == ("__debug__" : Str)) = false := by decide)
    (he : starEach (e :: es) X.env = (false, eval e X.env) :: starEach es X.env := by rfl) (hpl : (backTo pos (starEach es X.env)).any (·.1) = false := by rfl) : PD X W (.Call (.Name x p) (e :: es) [] pos) (eB op fs) := imp_E (pe_callTy hc hg hm hv ha hn hdb he hpl) fun _ _ _ h => tCB_of hd h
end
end DL
end

section
set_option Elab.async false
set_option linter.all false
set_option autoImplicit false
set_option maxRecDepth 100000
set_option maxHeartbeats 4000000
namespace DL
open PySem PySem.Spec PyProof.Rows L2
/-! ### tuple * int, any count -/
theorem tuple_mulS (l : Addr) (items : Array Value) (n : Nat) (dd : Option Addr) (sl : Array (Option Value)) (x : Int) (u : Tok) (c0 : (decide (x < -(2 ^ 63)) || decide (x ≥ 2 ^ 63)) = false) (c1 : (items.isEmpty || x == 1) = true) :
    Meets (Builtin.«tuple.__mul__» ⟨[.ref l, .int x u], []⟩) (fun _ R s => s.heap.get? l = some { cls := .type "tuple", dict := dd, data := .seq items n, slots := sl } ∧
      R (.ok (.ret (Value.ref l))) s) :=
  .of_wp fun prog w A R s h => by
    obtain ⟨hp, g, d, tk, os⟩ := s
    obtain ⟨hl, h⟩ := h
    have f1 := AutoSeq1.idx_int
    wp_walk using wpAny_loadPart' hl
    repeat (first
      | (refine wpAny_ite_false (decide_eq_false (by rw [c0]; exact Bool.false_ne_true)) ?_; wp_walk using wpAny_loadPart' hl)
      | (refine wpAny_ite_true (decide_eq_true c1) ?_; wp_walk using wpAny_loadPart' hl))
    exact ⟨_, rfl, h⟩
theorem tuple_mulN (l : Addr) (items : Array Value) (n : Nat) (dd : Option Addr) (sl : Array (Option Value)) (x : Int) (u : Tok) (c0 : (decide (x < -(2 ^ 63)) || decide (x ≥ 2 ^ 63)) = false) (c1 : (items.isEmpty || x == 1) = false) (c2 : (decide (x ≤ 0) || items.isEmpty) = true) :
    Meets (Builtin.«tuple.__mul__» ⟨[.ref l, .int x u], []⟩) (fun _ R s => s.heap.get? l = some { cls := .type "tuple", dict := dd, data := .seq items n, slots := sl } ∧
      R (.ok (.ret (Value.ref s.heap.objs.size))) { s with heap := s.heap.push { cls := Value.type "tuple", data := Data.seq #[] }, toks := s.toks }) :=
  .of_wp fun prog w A R s h => by
    obtain ⟨hp, g, d, tk, os⟩ := s
    obtain ⟨hl, h⟩ := h
    have f1 := AutoSeq1.idx_int
    wp_walk using wpAny_loadPart' hl
    repeat (first
      | (refine wpAny_ite_false (decide_eq_false (by rw [c0]; exact Bool.false_ne_true)) ?_; wp_walk using wpAny_loadPart' hl)
      | (refine wpAny_ite_false (decide_eq_false (by rw [c1]; exact Bool.false_ne_true)) ?_; wp_walk using wpAny_loadPart' hl)
      | (refine wpAny_ite_true (decide_eq_true c2) ?_; wp_walk using wpAny_loadPart' hl))
    exact ⟨_, rfl, h⟩
def rRepA (K : PySem.W.Frag) : R2 := fun x y H Q => ∃ l k xs, x = .ref l ∧ y = .int k ∧ SqT K H l xs ∧ -1000000 ≤ k ∧ k ≤ 1000000 ∧ ((xs.length : Nat) : Int) * k ≤ 1000000 ∧ (xs = [] ∨ k = 1 → Q (.ref l) H) ∧ (xs ≠ [] → k ≠ 1 → ∀ p, H p = none → Q (.ref p) (upd H p (.tup (List.replicate k.toNat xs).flatten)))
section
variable {X : Cx}
theorem op_repA : OpR X (binaryOp .Mult) (rRepA X.K) := by
  intro pins s σ H x y v u Q I rx ry h
  obtain ⟨l, k, xs, rfl, rfl, hT, h1, h2, hz, q1, q2⟩ := h
  cases rx
  obtain ⟨t, rfl⟩ := ry
  obtain ⟨its, r, ⟨⟨cls, dd, data, sl⟩, ho, hc, n, hd⟩, hs⟩ := I.tuple hT
  simp only at hc hd
  subst hc hd
  have hle : its.length = xs.length := r.length.symm
  have hsz0 : its.toArray.size = xs.length := by rw [List.size_toArray, hle]
  have c0 : (decide (k < -(2 ^ 63)) || decide (k ≥ 2 ^ 63)) = false := by
    rw [decide_eq_false (by omega), decide_eq_false (by omega)] <;> rfl
  by_cases hone : xs = [] ∨ k = 1
  · have c1 : (its.toArray.isEmpty || k == 1) = true := by
      rcases hone with e | e
      · subst e
        have : its = [] := List.eq_nil_of_length_eq_zero (by rw [hle]; rfl)
        subst this; rfl
      · subst e; simp
    refine wpAny_binaryOp_repeat_ref (T := "tuple") (U := "int") (by decide) ⟨_, ho, rfl⟩ (fun s' => typeIs_int s' k t) noFill_tuple_mul F.fills_int_mul F.slot_int_rmul repeat_tuple F.slot_int_index.lookup
      (call_meets F.slot_int_rmul (typeIs_int s k t) F.entry_int_rmul (F.args_int_rmul_2 _ _) (int_rmul_tuple k t l its.toArray n dd sl)
        ⟨ho, rfl, ⟨_, ho, rfl⟩, call_meets F.slot_tuple_mul ⟨_, ho, rfl⟩ F.entry_tuple_mul (F.args_tuple_mul_2 _ _) (tuple_mulS l its.toArray n dd sl k t c0 c1) ⟨ho, ?_⟩⟩)
    exact ⟨.ref l, H, I, rfl, q1 hone⟩
  · have hne : xs ≠ [] := fun e => hone (.inl e)
    have hk1 : k ≠ 1 := fun e => hone (.inr e)
    have hn : its ≠ [] := fun e => hne (by
      rw [e] at hle
      exact List.eq_nil_of_length_eq_zero hle.symm)
    have hi : its.toArray.isEmpty = false := by
      cases its with
      | nil => exact absurd rfl hn
      | cons a b => rfl
    have c1 : (its.toArray.isEmpty || k == 1) = false := by
      rw [hi, Bool.false_or]
      exact beq_eq_false_iff_ne.mpr (by omega)
    by_cases hk : k ≤ 0
    · have c2 : (decide (k ≤ 0) || its.toArray.isEmpty) = true := by
        rw [decide_eq_true hk]; rfl
      refine wpAny_binaryOp_repeat_ref (T := "tuple") (U := "int") (by decide) ⟨_, ho, rfl⟩ (fun s' => typeIs_int s' k t) noFill_tuple_mul F.fills_int_mul F.slot_int_rmul repeat_tuple F.slot_int_index.lookup
        (call_meets F.slot_int_rmul (typeIs_int s k t) F.entry_int_rmul (F.args_int_rmul_2 _ _) (int_rmul_tuple k t l its.toArray n dd sl)
          ⟨ho, rfl, ⟨_, ho, rfl⟩, call_meets F.slot_tuple_mul ⟨_, ho, rfl⟩ F.entry_tuple_mul (F.args_tuple_mul_2 _ _) (tuple_mulN l its.toArray n dd sl k t c0 c1 c2) ⟨ho, ?_⟩⟩)
      have e0 : (List.replicate k.toNat xs).flatten = [] := by
        have : k.toNat = 0 := by omega
        rw [this]; rfl
      have q2' := q2 hne hk1
      rw [e0] at q2'
      refine ⟨.ref s.heap.objs.size, _, I.laid (t' := s.toks) (o := .tup []) (fun b ob q => Heap.get?_push_of_some _ q) (Nat.le_refl _) ?_, rfl, q2' _ (I.hok.fresh (Nat.le_refl _))⟩
      exact ⟨Nat.zero_le _, [], .nil, IsTup.new _ _⟩
    · have c2 : (decide (k ≤ 0) || its.toArray.isEmpty) = false := by
        rw [hi, Bool.or_false]
        exact decide_eq_false (by omega)
      have hm : ((its.toArray.size : Nat) : Int) * k ≤ 1000000 := by rw [hsz0]; exact hz
      have c4 : Builtin.Tuple.tupleTooMany (((its.toArray.size : Nat) : Int) * k) = false := by
        unfold Builtin.Tuple.tupleTooMany
        rw [sizeLine_eq]
        exact decide_eq_false (by omega)
      have flen : k.toNat * xs.length ≤ 1000000 := by
        have : ((k.toNat * xs.length : Nat) : Int) ≤ 1000000 := by
          rw [Int.natCast_mul, Int.toNat_of_nonneg (by omega), Int.mul_comm]; exact hz
        omega
      refine wpAny_binaryOp_repeat_ref (T := "tuple") (U := "int") (by decide) ⟨_, ho, rfl⟩ (fun s' => typeIs_int s' k t) noFill_tuple_mul F.fills_int_mul F.slot_int_rmul repeat_tuple F.slot_int_index.lookup
        (call_meets F.slot_int_rmul (typeIs_int s k t) F.entry_int_rmul (F.args_int_rmul_2 _ _) (int_rmul_tuple k t l its.toArray n dd sl)
          ⟨ho, rfl, ⟨_, ho, rfl⟩, call_meets F.slot_tuple_mul ⟨_, ho, rfl⟩ F.entry_tuple_mul (F.args_tuple_mul_2 _ _) (tuple_mulW l its.toArray n dd sl k t c0 c1 c2 (by omega) c4 (by rw [size_rep, List.size_toArray, PyProof.Rows.lm_len_rep_flat, hle, sizeLine_eq]; omega)) ⟨ho, ?_⟩⟩)
      rw [size_rep]
      refine ⟨.ref s.heap.objs.size, _, I.laid (t' := s.toks) (o := .tup (List.replicate k.toNat xs).flatten) (fun b ob q => Heap.get?_push_of_some _ q) (Nat.le_refl _) ?_, rfl, q2 hne hk1 _ (I.hok.fresh (Nat.le_refl _))⟩
      exact ⟨by rw [PyProof.Rows.lm_len_rep_flat, sizeLine_eq]; omega, _, r.rep k.toNat, IsTup.new _ _⟩
end
end DL
end

section
set_option Elab.async false
set_option linter.all false
set_option autoImplicit false
set_option maxRecDepth 100000
set_option maxHeartbeats 1000000
namespace DL
open PySem PySem.Spec L2
open PyProof.Rows (envOfC)
section
variable {X : Cx} {W : Wd}
/-! ### products -/
def dMul : D → D → Option D
  | .int a, .int b => if small64 a || small64 b then some (.int (a * b)) else none
  | .tup xs, .int k => if decide (-1000000 ≤ k) && decide (k ≤ 1000000) && decide (((xs.length : Nat) : Int) * k ≤ 1000000) then some (.tup (List.replicate k.toNat xs).flatten) else none
  | _, _ => none
theorem d_mul {a b : Expr} {fa fb : EX} {pos : Pos} (ha : PD X W a fa) (hb : PD X W b fb) : PD X W (.BinOp a .Mult b pos) (e2 dMul fa fb) := d_op (op_mul.or op_repA) (by
  intro fr F H σ ρ n x y d v u Q R dx dy h k
  unfold dMul at h
  split at h
  · split at h
    · rename_i q
      rw [Bool.or_eq_true] at q
      cases dx; cases dy; cases h
      exact .inl ⟨_, _, rfl, rfl, q.imp small64_ok small64_ok, k F H _ R (Sub.refl _) (.int _)⟩
    · cases h
  · split at h
    · rename_i xs kk q
      simp only [Bool.and_eq_true, decide_eq_true_eq] at q
      cases dx with
      | tup h1 h2 =>
        cases dy; cases h
        refine .inr ⟨_, _, _, rfl, rfl, R.core.sub.sqT h1, q.1.1, q.1.2, by rw [h2.length]; exact q.2, fun e => ?_, fun e1 e2 => put_tup R (h2.rep _) k⟩
        have : (List.replicate kk.toNat xs).flatten = xs := by
          rcases e with e | e
          · rw [(dens_ne h2).mp e]; simp
          · subst e; simp
        rw [this] at k
        exact k F H _ R (Sub.refl _) (.tup h1 h2)
    · cases h
  · cases h) ha hb

/-! ### attributes, methods, instances -/
def dFld (c : Nat) (f : Str) : D → Option D
  | .obj c' ks vs => if c' = c then (ks.zip vs).lookup f else none
  | _ => none
theorem lookup_zip {K : PySem.W.Frag} {dr : Option Addr} {F : Hp} {f : Str} {d : D} : ∀ {ks : List Str} {vs : List V} {ds : List D}, ks.length = vs.length → Dens K W dr F vs ds → (ks.zip ds).lookup f = some d → ∃ v, (ks.zip vs).lookup f = some v ∧ Den K W dr F v d
  | [], _, _, _, _, e => by simp at e
  | k :: ks, [], _, l, _, _ => by simp at l
  | k :: ks, v :: vs, _, l, .cons h r, e => by
    rw [List.zip_cons_cons, List.lookup_cons] at e
    rw [List.zip_cons_cons, List.lookup_cons]
    split at e
    · cases e
      exact ⟨v, rfl, h⟩
    · exact lookup_zip (by simpa using l) r e
theorem lookup_zip_none {f : Str} : ∀ {ks : List Str} {vs : List V} {ds : List D}, ks.length = vs.length → vs.length = ds.length → (ks.zip ds).lookup f = none → (ks.zip vs).lookup f = none
  | [], _, _, _, _, _ => by simp
  | k :: ks, [], _, l, _, _ => by simp at l
  | k :: ks, v :: vs, [], _, l, _ => by simp at l
  | k :: ks, v :: vs, d :: ds, l, l', e => by
    rw [List.zip_cons_cons, List.lookup_cons] at e
    rw [List.zip_cons_cons, List.lookup_cons]
    split at e
    · cases e
    · exact lookup_zip_none (by simpa using l) (by simpa using l') e
theorem d_fld {e : Expr} {f : Str} {fx : EX} {c : Nat} {pos : Pos} (cl : Cls X.K (W.cl c)) (na : NoAttr X.K (W.cl c) f) (he : PD X W e fx) (hb : attributeBase e f X.env (eval e X.env) = eval e X.env := by rfl) : PD X W (.Attribute e f pos) (e1 (dFld c f) fx) := imp_E (pe_fld he hb) fun σ H Q ⟨fr, F, ρ, n, r, n', R, e, k⟩ => by
  rcases r with z | d
  · exact R.dE1 e k
  obtain ⟨x, n1, h1, h⟩ := M.bind_ok e
  obtain ⟨h2, h3⟩ := M.opt_ok h
  subst h3
  refine ⟨fr, F, ρ, n, .ok x, _, R, h1, fun F1 H1 v R1 s1 d1 => ?_⟩
  unfold dFld at h2
  split at h2
  · split at h2
    · rename_i c' ks vs q
      subst q
      cases d1 with
      | obj l hF hd =>
        obtain ⟨u, e1, e2⟩ := lookup_zip l hd h2
        exact ⟨_, _, _, _, u, rfl, R1.core.sub _ _ hF, cl, na, e1, k F1 H1 u R1 s1 e2⟩
    · cases h2
  · cases h2
/-- o.m(..): o, then the others -/
def isObj (c : Nat) (m : Str) : D → Bool
  | .obj c' ks vs => decide (c' = c) && ((ks.zip vs).lookup m).isNone
  | _ => false
def eMeth (c : Nat) (m : Str) (fx : FX) (fo : EX) (fs : EXs) : EX := fun ρ => M.bind (fo ρ) fun o => if isObj c m o then M.bind (fs ρ) fun ds => fx (o :: ds) else M.opt none
/-- o.m(..) where what is raised is wished for at the slots -/
def tMethS (C : Addr) (m : Str) (sp : Sp) (E : St → XK) (ta : TE) (t : TA) : TE := fun σ H Q => ta σ H fun x H1 => ∃ a dx fs, x = .ref a ∧ H1 a = some (.ins C dx fs) ∧ fs.lookup m = none ∧ t σ H1 fun vs H2 => sp (.ref a :: vs) H2 Q (E σ)
theorem pe_methS {C : Addr} {CX : CXT} {k : Nat} {f : Addr} {fd : FuncData} {ps : List Str} {m : Str} {pos apos : Pos} {e o : Expr} {es : List Expr} {sp : Sp} {E : St → XK} {ta : TE} {t : TA} {pl : Sem Bool} (ho : PE X o ta) (cl : Cls X.K C) (hm : Meth X.K C m f)
    (F : FnOk X.prog X.w X.K X.mg X.base CX k f fd ps sp) (hr : Room k X.A) (hb : Binds X.K fd ps []) (hx : ∀ σ, PassesAt CX X σ (E σ)) (ha : PA X (e :: es) t)
    (hst : starEach (e :: es) X.env = (false, eval e X.env) :: starEach es X.env) (hpl : (backTo pos (starEach es X.env)).any (·.1) = false)
    (ht : eval (.Call (.Attribute o m apos) (e :: es) [] pos) X.env = (do
      let ov ← eval o X.env
      standAt apos.atName
      let (f, first) ← holding [ov] (getMethod ov m pl)
      callWith pos f first (backTo pos (starEach (e :: es) X.env)) (backToKw pos (keywordEach [] X.env)))) : PE X (.Call (.Attribute o m apos) (e :: es) [] pos) (tMethS C m sp E ta t) := by
  constructor
  intro pins s σ H Q I h
  refine PySem.W.methodCall_KW (pl := pl) (thn (ho.run pins s σ H _ I h) ?_) ht
  rintro u s1 ⟨x, H1, I1, rx, a, dx, fs, ex, ea, l, q⟩
  subst ex
  have eu : RelV (.ref a) (.ref a) := rfl
  have ev : u = Value.ref a := rx
  subst ev
  refine getmeth_ok I1 ea cl hm l (PySem.W.callWith_K (h₀ := X.base) (first := [.ref a]) I.ok.mod.kin hm.kp (thn (ha.run pos pins s1 σ H1 _ I1 q) ?_) hst hpl)
  rintro us s2 ⟨vs, H2, I2, r, q2⟩
  exact ⟨I2.kIn, run_fnS (us := .ref a :: us) (vs := .ref a :: vs) F hr hb (hx σ) I2 (.cons eu r) q2⟩
theorem pe_meth0S {C : Addr} {CX : CXT} {k : Nat} {f : Addr} {fd : FuncData} {ps : List Str} {m : Str} {pos apos : Pos} {o : Expr} {sp : Sp} {E : St → XK} {ta : TE} {pl : Sem Bool} (ho : PE X o ta) (cl : Cls X.K C) (hm : Meth X.K C m f)
    (F : FnOk X.prog X.w X.K X.mg X.base CX k f fd ps sp) (hr : Room k X.A) (hb : Binds X.K fd ps []) (hx : ∀ σ, PassesAt CX X σ (E σ))
    (ht : eval (.Call (.Attribute o m apos) [] [] pos) X.env = (do
      let ov ← eval o X.env
      standAt apos.atName
      let (f, first) ← holding [ov] (getMethod ov m pl)
      callWith pos f first (backTo pos (starEach [] X.env)) (backToKw pos (keywordEach [] X.env)))) : PE X (.Call (.Attribute o m apos) [] [] pos) (tMethS C m sp E ta tNil) := by
  constructor
  intro pins s σ H Q I h
  refine PySem.W.methodCall_KW (pl := pl) (thn (ho.run pins s σ H _ I h) ?_) ht
  rintro u s1 ⟨x, H1, I1, rx, a, dx, fs, ex, ea, l, q⟩
  subst ex
  have eu : RelV (.ref a) (.ref a) := rfl
  have ev : u = Value.ref a := rx
  subst ev
  refine getmeth_ok I1 ea cl hm l ?_
  have q : sp [.ref a] H1 Q (E σ) := q
  exact PySem.W.callWith_K0 (first := [.ref a]) I1.kIn hm.kp (run_fnS (us := [.ref a]) (vs := [.ref a]) F hr hb (hx σ) I1 (.cons eu .nil) q)
theorem tMeth_of {c : Nat} {m : Str} {fx : FX} {fo : EX} {fs : EXs} {mm : Nat} (hm : ∀ ρ n ds n', fs ρ n = some (.ok ds, n') → ds.length = mm) {σ : St} {H : Hp} {Q : VK} (h : tD X W (eMeth c m fx fo fs) σ H Q) :
    tMethS (W.cl c) m (spD X.K W fx (mm + 1)) (EA X) (tD X W fo) (tDs X W fs) σ H Q := by
  obtain ⟨fr, F, ρ, n, r, n', R, e, k⟩ := h
  rcases M.bind_any e with ⟨z, e1, rfl⟩ | ⟨o, n1, e1, h1⟩
  · exact ⟨fr, F, ρ, n, .error z, n', R, e1, k⟩
  refine ⟨fr, F, ρ, n, .ok o, n1, R, e1, fun F1 H1 v R1 s1 d1 => ?_⟩
  split at h1
  · rename_i q
    unfold isObj at q
    split at q
    · rw [Bool.and_eq_true, decide_eq_true_eq] at q
      obtain ⟨q1, q2⟩ := q
      subst q1
      cases d1 with
      | obj l hF hd =>
        refine ⟨_, _, _, rfl, R1.core.sub _ _ hF, lookup_zip_none l hd.length (Option.isNone_iff_eq_none.mp q2), ?_⟩
        rcases M.bind_any h1 with ⟨z, e2, rfl⟩ | ⟨ds, n2, e2, h2⟩
        · exact ⟨fr, F1, ρ, n1, .error z, n', R1, e2, KX.mono k s1⟩
        exact ⟨fr, F1, ρ, n1, .ok ds, n2, R1, e2, fun F2 H2 vs R2 s2 d2 => callee_back (F := F) (by rw [List.length_cons, hm _ _ _ _ e2]) R2 (s1.trans s2) (.cons (.obj l (s2 _ _ hF) (hd.mono s2 fun _ z => z)) d2) h2 k⟩
    · cases q
  · obtain ⟨_, q⟩ := M.opt_any h1
    cases q
theorem d_meth {k : Nat} {c : Nat} {f : Addr} {fd : FuncData} {ps : List Str} {m : Str} {pos apos : Pos} {e o : Expr} {es : List Expr} {fx : FX} {fo : EX} {fs : EXs} {mm : Nat} {pl : Sem Bool} (ho : PD X W o fo) (cl : Cls X.K (W.cl c)) (hm : Meth X.K (W.cl c) m f)
    (F : FnOk X.prog X.w X.K X.mg X.base (L2.CX X.prog X.w) k f fd ps (spD X.K W fx (mm + 1))) (hr : Room k X.A) (hb : Binds X.K fd ps []) (ha : PDs X W (e :: es) fs) (hl : ∀ ρ n ds n', fs ρ n = some (.ok ds, n') → ds.length = mm)
    (hst : starEach (e :: es) X.env = (false, eval e X.env) :: starEach es X.env := by rfl) (hpl : (backTo pos (starEach es X.env)).any (·.1) = false := by rfl)
    (ht : eval (.Call (.Attribute o m apos) (e :: es) [] pos) X.env = (do
      let ov ← eval o X.env
      standAt apos.atName
      let (f, first) ← holding [ov] (getMethod ov m pl)
      callWith pos f first (backTo pos (starEach (e :: es) X.env)) (backToKw pos (keywordEach [] X.env))) := by rfl) :
    PD X W (.Call (.Attribute o m apos) (e :: es) [] pos) (eMeth c m fx fo fs) := imp_E (pe_methS (E := EA X) ho cl hm F hr hb (fun _ => passEA) ha hst hpl ht) fun _ _ _ h => tMeth_of hl h
theorem d_meth0 {k : Nat} {c : Nat} {f : Addr} {fd : FuncData} {ps : List Str} {m : Str} {pos apos : Pos} {o : Expr} {fx : FX} {fo : EX} {pl : Sem Bool} (ho : PD X W o fo) (cl : Cls X.K (W.cl c)) (hm : Meth X.K (W.cl c) m f)
    (F : FnOk X.prog X.w X.K X.mg X.base (L2.CX X.prog X.w) k f fd ps (spD X.K W fx 1)) (hr : Room k X.A) (hb : Binds X.K fd ps [])
    (ht : eval (.Call (.Attribute o m apos) [] [] pos) X.env = (do
      let ov ← eval o X.env
      standAt apos.atName
      let (f, first) ← holding [ov] (getMethod ov m pl)
      callWith pos f first (backTo pos (starEach [] X.env)) (backToKw pos (keywordEach [] X.env))) := by rfl) :
    PD X W (.Call (.Attribute o m apos) [] [] pos) (eMeth c m fx fo eNil) := imp_E (pe_meth0S (E := EA X) ho cl hm F hr hb (fun _ => passEA) ht) fun σ H Q h => by
  obtain ⟨fr, F, ρ, n, r, n1, R, e1, k⟩ := tMeth_of al_nil h
  cases r with
  | error z => exact ⟨fr, F, ρ, n, .error z, n1, R, e1, k⟩
  | ok o =>
    refine ⟨fr, F, ρ, n, .ok o, n1, R, e1, fun F1 H1 v R1 s1 d1 => ?_⟩
    obtain ⟨a, dx, fs, q1, q2, q3, q4⟩ := k F1 H1 v R1 s1 d1
    obtain ⟨fr2, F2, ρ2, n2, r2, n3, R2, e2, k2⟩ := q4
    obtain ⟨b1, b2⟩ := M.pure_any e2
    subst b1 b2
    exact ⟨a, dx, fs, q1, q2, q3, k2 F2 H1 [] R2 (Sub.refl _) .nil⟩

/-! ### a new instance -/
/-- the promise of an __init__ that raises nothing: f: the arguments to the instance -/
def spI (K : PySem.W.Frag) (W : Wd) (f : FX) (c m : Nat) : Sp := fun vs H Q E => vs.length = m + 1 ∧ ∃ fr F n p dx us ds r n', vs = .ref p :: us ∧ H p = some (.ins (W.cl c) dx []) ∧ F p = none ∧ fr.dr ≠ some p ∧ Core K W fr F H n ∧ Dens K W fr.dr F us ds ∧ f ds n = some (r, n') ∧
  Res (fun d => isO d = true ∧ ∀ F' H', Core K W ⟨fr.dr, fr.sa, mask H, F, fun a => a = p⟩ F' H' n' → F' p = none → MDen K W fr.dr F' H' p d → Q .non H') (fun z => ∀ F' H' cls x, Core K W ⟨fr.dr, fr.sa, mask H, F, fun a => a = p⟩ F' H' n' → XDen K W fr.dr F' H' z cls x → E cls x H') r
def runI (N P c : Nat) (g : SX) : FX := fun ds => M.bind (g (Sl.own (.obj c [] []) :: ds.map Sl.val ++ List.replicate (N - P) Sl.no)) fun o => match o with
  | .nx (Sl.own d :: _) => M.pure d
  | _ => M.opt none
end
section
variable {P : Program} {w : World} {K : PySem.W.Frag} {mg : Str → Option Value} {base : Heap} {W : Wd}
theorem okI {x qual : Str} {st : Stmt} {f : Addr} {fd : FuncData} {N ps : List Str} {k m cc : Nat} {g : SX} (F : Fun K x qual st f fd) (S : FnScope N ps (defScope st)) (hps : ps.length = m + 1)
    (body : ∀ (cdv : Value) (A : Around) (outer : List PySem.Env) (s : Shared) (H : Hp) (E : XK), Room k (A.deeper (envOfC qual (defScope st) s.heap.objs.size f cdv)) → PDSs (cxOf (L2.CX P w) P w K mg base N qual (defScope st) f cdv A outer s H E) W (defBody st) g) :
    FnOk P w K mg base (L2.CX P w) (k + 1) f fd ps (spI K W (runI N.length (m + 1) cc g) cc m) := by
  refine fn_okX F S (fun vs H Q E h => by rw [hps]; exact h.1) fun cdv A outer s H vs Q E hr h => ?_
  obtain ⟨hl, fr, F0, n, p, dx, us, ds, r, n', rfl, hp, hF, hdr, c, dd, e, k⟩ := h
  refine ⟨_, body cdv A outer s H E hr, ?_⟩
  have c' : Core K W ⟨fr.dr, fr.sa, mask H, F0, fun a => a = p⟩ F0 H n := ⟨c.sub, fun _ _ h _ _ => (of_mask h).1, Sub.refl _, fun _ _ _ h => h, fun _ o h => ⟨o, of_mask h⟩, c.draw, c.ntF, c.tabs⟩
  have hus : us.length = m := by simpa using hl
  have key : ∀ (i : Nat) (e : Sl), (Sl.own (.obj cc [] []) :: ds.map Sl.val ++ List.replicate (N.length - (m + 1)) Sl.no)[i]? = some e → e ≠ .no → (i = 0 ∧ e = .own (.obj cc [] [])) ∨ ∃ d j, i = j + 1 ∧ ds[j]? = some d ∧ e = .val d := fun i e q ne => by
    cases i with
    | zero => left; simp at q; exact ⟨rfl, q.symm⟩
    | succ j =>
      right
      rw [List.cons_append, List.getElem?_cons_succ] at q
      by_cases hi : j < ds.length
      · rw [List.getElem?_append_left (by simpa using hi), List.getElem?_map] at q
        cases z : ds[j]? with
        | none => rw [z] at q; cases q
        | some d' => rw [z] at q; cases q; exact ⟨d', j, rfl, z, rfl⟩
      · rw [List.getElem?_append_right (by simpa using hi)] at q
        have := List.mem_of_getElem? q
        rw [List.mem_replicate] at this
        exact absurd this.2 ne
  have R : Rel K W ⟨fr.dr, fr.sa, mask H, F0, fun a => a = p⟩ F0 H (L2.start N (.ref p :: us)) (Sl.own (.obj cc [] []) :: ds.map Sl.val ++ List.replicate (N.length - (m + 1)) Sl.no) n := by
    refine ⟨c', fun _ => p, ?_, fun i e q => ?_, fun i e q => ?_, fun i j e e' q q' _ => ?_⟩
    · unfold L2.start; simp [← dd.length, hus]
    · rcases key i _ q (by simp) with ⟨_, h⟩ | ⟨d', j, rfl, h1, h2⟩
      · cases h
      · cases h2
        obtain ⟨v, h3, h4⟩ := dd.get h1
        refine ⟨v, ?_, h4⟩
        unfold L2.start
        have hi := (List.getElem?_eq_some_iff.mp h3).1
        rw [List.map_cons, List.cons_append, List.getElem?_cons_succ, List.getElem?_append_left (by simpa using hi), List.getElem?_map, h3]; rfl
    · rcases key i _ q (by simp) with ⟨rfl, h⟩ | ⟨d', j, rfl, h1, h2⟩
      · cases h
        exact ⟨rfl, hF, hdr, .inr rfl, ⟨dx, [], rfl, hp, .nil⟩, .inl ⟨rfl, rfl⟩⟩
      · cases h2
    · rcases key i _ q (by simp) with ⟨rfl, h⟩ | ⟨d', j', rfl, h1, h2⟩
      · rcases key j _ q' (by simp) with ⟨rfl, h⟩ | ⟨d', j', rfl, h1, h2⟩
        · rfl
        · cases h2
      · cases h2
  rcases M.bind_any e with ⟨z, e1, rfl⟩ | ⟨o, n1, e1, h1⟩
  · exact ⟨_, F0, _, n, .error z, n', R, e1, fun F' H' σ' cls d c' s' x => acc_of rfl rfl rfl rfl (k F' H' cls d c' x)⟩
  refine ⟨_, F0, _, n, .ok o, n1, R, e1, ?_⟩
  split at h1
  · obtain ⟨a1, a2⟩ := M.pure_any h1
    subst a1 a2
    obtain ⟨k0, k⟩ := k
    intro F' H' σ' R' s'
    obtain ⟨ad, sl⟩ := R'.slots
    obtain ⟨q1, q2, q3, q4, q5, q7⟩ := sl.own 0 _ rfl
    have q6 : ad 0 = p := by
      rcases q7 with q7 | q7
      · exact q7.2
      · rw [k0] at q7; cases q7.1
    rw [q6] at q2 q5
    exact k F' H' R'.core q2 q5
  · obtain ⟨_, q⟩ := M.opt_any h1
    cases q
end
end DL
end

section
set_option Elab.async false
set_option linter.all false
set_option autoImplicit false
set_option maxRecDepth 100000
set_option maxHeartbeats 1000000
namespace DL
open PySem PySem.Spec L2
section
variable {K : PySem.W.Frag} {W : Wd} {fr : Fr} {F F' H H2 H' : Hp} {σ : St} {ρ : Env} {n n' : Int} {x : Addr}
theorem Rel.backM (r : Rel K W fr F H σ ρ n) (hx : H x = none) (h2 : ∀ a o, H a = some o → H2 a = some o) (d : Core K W ⟨fr.dr, fr.sa, mask H2, F, fun a => a = x⟩ F' H' n') : Rel K W fr F' H' σ ρ n' := by
  have c := r.core
  have old : ∀ a o, H a = some o → NT o → fr.dr ≠ some a → H' a = some o := fun a o q nt z => d.base a o (mask_of (h2 _ _ q) nt) z fun e => by
    have e : a = x := e
    rw [e, hx] at q; cases q
  refine r.keep ⟨d.sub, fun a o q1 q2 q3 => ?_, c.f0.trans d.f0, fun a o q1 q2 => ?_, fun a o q => ?_, d.draw, d.ntF, d.tabs⟩ d.f0 old fun a o q nt z => d.new a o (mask_of (h2 _ _ q) nt) z
  · have h := c.base a o q1 q2 q3
    obtain ⟨o', q, nt⟩ := c.there a o q1
    rw [h] at q; cases q
    exact old a o h nt q2
  · obtain ⟨o', q, nt⟩ := c.there a o q1
    exact d.new a o' (mask_of (h2 _ _ q) nt) (c.new a o q1 q2)
  · obtain ⟨o', q', nt⟩ := c.there a o q
    exact d.there a o' (mask_of (h2 _ _ q') nt)
end
section
variable {X : Cx} {W : Wd} {k : Nat} {f : Addr} {fd : FuncData} {ps : List Str} {x m : Str} {p pos apos : Pos} {e o : Expr} {es : List Expr}
theorem mden_den {K : PySem.W.Frag} {dr : Option Addr} {F H : Hp} {a : Addr} {d : D} (m : MDen K W dr F H a d) (hF : F a = none) : ∃ o, H a = some o ∧ Den K W dr (upd F a o) (.ref a) d ∧ NT o := by
  have up : ∀ o, Sub F (upd F a o) := fun o b u q => by rw [upd_ne (ne_of_none q hF)]; exact q
  cases d with
  | lst ds => obtain ⟨vs, e, q⟩ := m; exact ⟨_, e, .lst upd_same (q.mono (up _) fun _ z => z), fun _ z => by cases z⟩
  | dic ks ds => obtain ⟨vs, l, e, q⟩ := m; exact ⟨_, e, .dic l (.inl upd_same) (q.mono (up _) fun _ z => z), fun _ z => by cases z⟩
  | dit ks ds => obtain ⟨vs, l, e, q⟩ := m; exact ⟨_, e, .dit l (.inl upd_same) (q.mono (up _) fun _ z => z), fun _ z => by cases z⟩
  | obj c ks ds => obtain ⟨dx, vs, l, e, q⟩ := m; exact ⟨_, e, .obj l upd_same (q.mono (up _) fun _ z => z), fun _ z => by cases z⟩
  | non => exact m.elim
  | bl _ => exact m.elim
  | int _ => exact m.elim
  | str _ => exact m.elim
  | tup _ => exact m.elim
  | drw => exact m.elim
  | scr => exact m.elim
/-- C(..) -/
def eMake (c : Nat) (fx : FX) (fs : EXs) : EX := fun ρ => M.bind (fs ρ) fun ds => M.bind (fx ds) fun d => match d with
  | .obj c' ks vs => if c' = c then M.pure (.obj c' ks vs) else M.opt none
  | _ => M.opt none
def tMakeS (C : Addr) (sp : Sp) (E : St → XK) (t : TA) : TE := fun σ H Q => t σ H fun vs H1 => ∀ x dx, H1 x = none → H1 dx = none → dx ≠ x → sp (.ref x :: vs) (upd (upd H1 dx (.own x)) x (.ins C dx [])) (fun v H2 => v = .non ∧ Q (.ref x) H2) (E σ)
theorem run_makeS {C : Addr} {CX : CXT} {sp : Sp} {E : St → XK} {pins : List (Addr × Obj)} {σ : St} {H : Hp} {s : Shared} {Q : VK} {us : List Value} {vs : List V} (Mm : Mk X.K C f) (F : FnOk X.prog X.w X.K X.mg X.base CX k f fd ps sp) (hr : Room (k + 1) X.A) (hb : Binds X.K fd ps [])
    (hx : PassesAt CX X σ (E σ)) (I : Inv X pins σ H s) (r : Vals vs us)
    (h : ∀ x dx, H x = none → H dx = none → dx ≠ x → sp (.ref x :: vs) (upd (upd H dx (.own x)) x (.ins C dx [])) (fun v H2 => v = .non ∧ Q (.ref x) H2) (E σ)) :
    wpAny (model X.prog X.w) X.A (call (.ref C) us) (EP X pins σ Q) X.xe s := by
  obtain ⟨dx, edx⟩ : ∃ dx, dx = s.heap.objs.size := ⟨_, rfl⟩
  obtain ⟨x, ex⟩ : ∃ x, x = s.heap.objs.size + 1 := ⟨_, rfl⟩
  have hq := h x dx (I.hok.fresh (by rw [ex]; exact Nat.le_succ _)) (I.hok.fresh (by rw [edx]; exact Nat.le_refl _)) (by rw [edx, ex]; exact Nat.ne_of_lt (Nat.lt_succ_self _))
  subst edx ex
  have J := Inv.made (C := C) I
  have r2 : Vals (V.ref (s.heap.objs.size + 1) :: vs) (Value.ref (s.heap.objs.size + 1) :: us) := .cons rfl r
  have hl : (Value.ref (s.heap.objs.size + 1) :: us ++ []).length = ps.length := by
    have e := r2.length
    rw [F.len _ _ _ _ hq] at e
    rw [List.append_nil]
    exact e.symm
  have b := hb _ (Value.ref (s.heap.objs.size + 1) :: us) J.kIn hl
  rw [List.append_nil] at b
  refine wpAny_call (make_map (f := f) I.kIn Mm.makes Mm.init (beq_iff_eq.mp Mm.fn) (codeAny_mono (F.run _ X.stack _ _ _ _ _ _ (E σ) (hr.make C us []) (J.env0.make C us []) b r2 hq) ?_))
  rintro (e | fl) s' hq'
  · exact hx pins _ _ e s' J hq'
  · cases fl with
    | ret u =>
      obtain ⟨v, H', I3, rv, ev, q3⟩ := J.after hq'
      rw [ev] at rv
      exact ⟨rv, V.ref (s.heap.objs.size + 1), H', I3, rfl, q3⟩
    | next => exact hq'.elim
    | brk => exact hq'.elim
    | cont => exact hq'.elim
theorem pe_makeS {C : Addr} {CX : CXT} {sp : Sp} {E : St → XK} {t : TA} (Mm : Mk X.K C f) (F : FnOk X.prog X.w X.K X.mg X.base CX k f fd ps sp) (hr : Room (k + 1) X.A) (hg : Gl X x) (hm : X.mg x = some (.ref C)) (hb : Binds X.K fd ps []) (hx : ∀ σ, PassesAt CX X σ (E σ))
    (ha : PA X (e :: es) t) (hdb : (x == ("__debug__" : Str)) = false) (he : starEach (e :: es) X.env = (false, eval e X.env) :: starEach es X.env) (hpl : (backTo pos (starEach es X.env)).any (·.1) = false) :
    PE X (.Call (.Name x p) (e :: es) [] pos) (tMakeS C sp E t) := by
  constructor
  intro pins s σ H Q I h
  refine wpAny_Call_Name_kw (ld_glob I hg hm (PySem.W.callWith_K (h₀ := X.base) I.ok.mod.kin Mm.kp (thn (ha.run pos pins s σ H _ I h) ?_) he hpl) hdb)
  rintro us s1 ⟨vs, H1, I1, r, q⟩
  exact ⟨I1.kIn, run_makeS Mm F hr hb (hx σ) I1 r q⟩
theorem tMake_of {c mm : Nat} {fx : FX} {fs : EXs} (hm : ∀ ρ n ds n', fs ρ n = some (.ok ds, n') → ds.length = mm) {σ : St} {H : Hp} {Q : VK} (h : tD X W (eMake c fx fs) σ H Q) : tMakeS (W.cl c) (spI X.K W fx c mm) (EA X) (tDs X W fs) σ H Q := by
  obtain ⟨fr, F, ρ, n, r, n', R, e, k⟩ := h
  rcases M.bind_any e with ⟨z, e1, rfl⟩ | ⟨ds, n1, e1, h1⟩
  · exact ⟨fr, F, ρ, n, .error z, n', R, e1, k⟩
  refine ⟨fr, F, ρ, n, .ok ds, n1, R, e1, fun F1 H1 vs R1 s1 d1 => ?_⟩
  intro x dx hx hdx hne
  have h2 : ∀ a o, H1 a = some o → (upd (upd H1 dx (.own x)) x (.ins (W.cl c) dx [])) a = some o := fun a o q => by
    rw [upd_ne (ne_of_none q hx), upd_ne (ne_of_none q hdx)]; exact q
  have c1 := R1.core
  have F1x := c1.noF hx
  have c3 : Core X.K W fr F1 (upd (upd H1 dx (.own x)) x (.ins (W.cl c) dx [])) n1 := ⟨fun a o q => h2 _ _ (c1.sub _ _ q), fun a o q q2 q3 => h2 _ _ (c1.base a o q q2 q3), c1.f0, c1.new, fun a o q => by
    obtain ⟨o', z, nt⟩ := c1.there a o q
    exact ⟨o', h2 _ _ z, nt⟩, fun a q => by
    obtain ⟨a1, a2, a3⟩ := c1.draw a q
    exact ⟨a1, h2 _ _ a2, a3⟩, c1.ntF, tabs_keep c1.tabs fun a o q _ => h2 _ _ q⟩
  rcases M.bind_any h1 with ⟨z, e2, rfl⟩ | ⟨d', n2, e2, h3⟩
  · exact ⟨by rw [List.length_cons, d1.length, hm _ _ _ _ e1], fr, F1, n1, x, dx, vs, ds, .error z, n', rfl, upd_same, F1x, c1.ndr hx, c3, d1, e2, fun F' H' cls d c2 xx => k F' H' cls d (R1.backM hx h2 c2) (s1.trans c2.f0) xx⟩
  split at h3
  · split at h3
    · obtain ⟨b1, b2⟩ := M.pure_any h3
      rename_i c' ks fs' q
      subst q
      subst b1 b2
      refine ⟨by rw [List.length_cons, d1.length, hm _ _ _ _ e1], fr, F1, n1, x, dx, vs, ds, .ok (.obj c' ks fs'), _, rfl, upd_same, F1x, c1.ndr hx, c3, d1, e2, rfl, fun F' H' c2 q1 q2 => ⟨rfl, ?_⟩⟩
      have R2 := R1.backM hx h2 c2
      obtain ⟨o, z1, z2, z3⟩ := mden_den q2 q1
      obtain ⟨u1, R3⟩ := R2.addF z1 q1 (c1.noH0 hx) (c1.ndr hx) (R1.noOwn hx) z3
      exact k _ H' _ R3 ((s1.trans c2.f0).trans u1) z2
    · obtain ⟨_, q⟩ := M.opt_any h3
      cases q
  · obtain ⟨_, q⟩ := M.opt_any h3
    cases q
theorem d_make {c mm : Nat} {fx : FX} {fs : EXs} (Mm : Mk X.K (W.cl c) f) (F : FnOk X.prog X.w X.K X.mg X.base (L2.CX X.prog X.w) k f fd ps (spI X.K W fx c mm)) (hr : Room (k + 1) X.A) (hg : Gl X x) (hm : X.mg x = some (.ref (W.cl c))) (hb : Binds X.K fd ps [])
    (ha : PDs X W (e :: es) fs) (hl : ∀ ρ n ds n', fs ρ n = some (.ok ds, n') → ds.length = mm) (hdb : (x == ("__debug__" : Str)) = false := by decide) (he : starEach (e :: es) X.env = (false, eval e X.env) :: starEach es X.env := by rfl) (hpl : (backTo pos (starEach es X.env)).any (·.1) = false := by rfl) :
    PD X W (.Call (.Name x p) (e :: es) [] pos) (eMake c fx fs) := imp_E (pe_makeS (E := EA X) Mm F hr hg hm hb (fun _ => passEA) ha hdb he hpl) fun _ _ _ h => tMake_of hl h

/-! ### one's own: fields, lists, dicts -/
def putKs (f : Str) : List Str → List Str
  | [] => [f]
  | g :: r => if g = f then g :: r else g :: putKs f r
def putVs {α : Type} (f : Str) (d : α) : List Str → List α → List α
  | [], _ => [d]
  | g :: r, v :: vs => if g = f then d :: vs else v :: putVs f d r vs
  | _ :: _, [] => []
theorem putKs_length {α : Type} (f : Str) (d : α) : ∀ {ks : List Str} {vs : List α}, ks.length = vs.length → (putKs f ks).length = (putVs f d ks vs).length
  | [], [], _ => rfl
  | [], _ :: _, l => by simp at l
  | g :: r, [], l => by simp at l
  | g :: r, v :: vs, l => by
    unfold putKs putVs
    split
    · exact l
    · simp [putKs_length f d (ks := r) (vs := vs) (by simpa using l)]
theorem putF_zip (f : Str) (v : V) : ∀ {ks : List Str} {vs : List V}, ks.length = vs.length → putF f v (ks.zip vs) = (putKs f ks).zip (putVs f v ks vs)
  | [], [], _ => rfl
  | [], _ :: _, l => by simp at l
  | g :: r, [], l => by simp at l
  | g :: r, u :: vs, l => by
    rw [List.zip_cons_cons]
    unfold putF putKs putVs
    split
    · rw [List.zip_cons_cons]
    · rw [List.zip_cons_cons, putF_zip f v (by simpa using l)]
theorem Dens.putVs {K : PySem.W.Frag} {dr : Option Addr} {F : Hp} (f : Str) {v : V} {d : D} (h : Den K W dr F v d) : ∀ {ks : List Str} {vs : List V} {ds : List D}, ks.length = vs.length → Dens K W dr F vs ds → Dens K W dr F (putVs f v ks vs) (putVs f d ks ds)
  | [], [], _, _, .nil => .cons h .nil
  | [], _ :: _, _, l, _ => by simp at l
  | g :: r, [], _, l, _ => by simp at l
  | g :: r, u :: vs, _, l, .cons q s => by
    unfold DL.putVs
    split
    · exact .cons h s
    · exact .cons q (Dens.putVs f h (by simpa using l) s)
def own? (ρ : Env) (i : Nat) : Option D := match ρ[i]? with
  | some (Sl.own d) => some d
  | _ => none
theorem own_some {ρ : Env} {i : Nat} {d : D} (h : own? ρ i = some d) : ρ[i]? = some (Sl.own d) := by
  unfold own? at h
  split at h
  · cases h; assumption
  · cases h
/-- what is one's own is changed by a value -/
def sUp (i : Nat) (up : D → D → Option D) (fx : EX) : SX := fun ρ => M.bind (fx ρ) fun d => M.bind (M.opt ((own? ρ i).bind (up d))) fun o => M.pure (.nx (ρ.set i (.own o)))
theorem sUp_ok {i : Nat} {up : D → D → Option D} {fx : EX} {ρ : Env} {n n' : Int} {o : Out} (h : sUp i up fx ρ n = some (.ok o, n')) : ∃ d a b, fx ρ n = some (.ok d, n') ∧ ρ[i]? = some (Sl.own a) ∧ up d a = some b ∧ o = .nx (ρ.set i (.own b)) := by
  obtain ⟨d, n1, e1, h1⟩ := M.bind_ok h
  obtain ⟨b, n2, e2, h2⟩ := M.bind_ok h1
  obtain ⟨e3, e4⟩ := M.opt_ok e2
  obtain ⟨e5, e6⟩ := M.pure_ok h2
  subst e4
  cases q : own? ρ i with
  | none => rw [q] at e3; cases e3
  | some a =>
    rw [q] at e3
    exact ⟨d, a, b, by rw [e6]; exact e1, own_some q, e3, e5.symm⟩
/-- self.f = e, self one's own -/
def uFld (c : Nat) (f : Str) (d : D) : D → Option D
  | .obj c' ks vs => if c' = c ∧ ks.length < 1000 ∧ ks.length = vs.length then some (.obj c' (putKs f ks) (putVs f d ks vs)) else none
  | _ => none
theorem S_fld {i c : Nat} {o : Expr} {f : Str} {fx : EX} {value : Expr} {pos pos' : Pos} (cl : Cls X.K (W.cl c)) (na : NoAttr X.K (W.cl c) f) (ho : PE X o (tVar i)) (hv : PD X W value fx) (hs : swapsWith value (some (.Attribute o f pos')) pos.line X.env = pure false := by rfl) : PDS X W (.Assign [.Attribute o f pos'] value pos) (sUp i (uFld c f) fx) := imp_S (ps_fld ho hv hs) fun E σ H ⟨fr, F, ρ, n, r, n', R, e, k⟩ => by
  rcases r with z | o
  · refine R.dE e (KS.x k) fun _ _ _ _ _ _ h _ _ _ => ?_
    rcases M.bind_err h with h | ⟨_, _, _, h⟩
    · exact (M.opt_err h).elim
    · exact (M.pure_err h).elim
  obtain ⟨d, a, b, e1, hi, e3, rfl⟩ := sUp_ok e
  refine ⟨fr, F, ρ, n, .ok d, n', R, e1, fun F1 H1 v R1 s1 d1 => ?_⟩
  unfold uFld at e3
  split at e3
  · split at e3
    · rename_i c' ks vs q
      obtain ⟨q1, q2, q3⟩ := q
      subst q1
      cases e3
      obtain ⟨ad, s⟩ := R1.slots
      obtain ⟨a1, a2, a3, a4, ⟨dx, us, l, a5, a6⟩, a7⟩ := s.own i _ hi
      refine ⟨_, a1, ad i, _, dx, _, rfl, a5, cl, na, ?_, ?_⟩
      · rw [List.length_zip, l, Nat.min_self]
        rw [← l]; exact q2
      · have m' : MDen X.K W fr.dr F1 (upd H1 (ad i) (.ins (W.cl c') dx (putF f v (ks.zip us)))) (ad i) (.obj c' (putKs f ks) (putVs f d ks vs)) :=
          ⟨dx, _, putKs_length f v l, by rw [upd_same, putF_zip f v l], a6.putVs f d1 l⟩
        exact k F1 _ _ (R1.change s hi m' rfl) s1
    · cases e3
  · cases e3
/-- reading a field of one's own -/
def eOwnFld (i c : Nat) (f : Str) : EX := fun ρ => M.opt ((own? ρ i).bind (dFld c f))
theorem d_ownFld {i c : Nat} {o : Expr} {f : Str} {pos : Pos} (cl : Cls X.K (W.cl c)) (na : NoAttr X.K (W.cl c) f) (ho : PE X o (tVar i)) (hb : attributeBase o f X.env (eval o X.env) = eval o X.env := by rfl) : PD X W (.Attribute o f pos) (eOwnFld i c f) := imp_E (pe_fld ho hb) fun σ H Q ⟨fr, F, ρ, n, r, n', R, e, k⟩ => by
  rcases r with z | d
  · exact (M.opt_err e).elim
  obtain ⟨h1, h2⟩ := M.opt_ok e
  subst h2
  cases q : own? ρ i with
  | none => rw [q] at h1; cases h1
  | some a =>
  rw [q] at h1
  have hi := own_some q
  have h1 : dFld c f a = some d := h1
  clear q
  unfold dFld at h1
  split at h1
  · split at h1
    · rename_i c' ks vs q
      subst q
      obtain ⟨ad, s⟩ := R.slots
      obtain ⟨a1, a2, a3, a4, ⟨dx, us, l, a5, a6⟩, a7⟩ := s.own i _ hi
      obtain ⟨u, e1, e2⟩ := lookup_zip l a6 h1
      exact ⟨_, a1, ad i, _, dx, _, u, rfl, a5, cl, na, e1, k F H u R (Sub.refl _) e2⟩
    · cases h1
  · cases h1
/-- x = [] -/
def sOwn (i : Nat) (d : D) : SX := fun ρ => M.pure (.nx (ρ.set i (.own d)))
theorem S_nil_ {i : Nat} {y : Str} {px p2 pos : Pos} (hN : X.N.Nodup) (hi : X.N[i]? = some y) (hx : Loc X.env.scope y) (hs : swapsWith (.List [] p2) (some (.Name y px)) pos.line X.env = pure false := by rfl) (hf : X.fn y = true ∨ X.env.scope.names.lookup y = some .local := by first | exact .inl rfl | exact .inr rfl | assumption) : PDS X W (.Assign [.Name y px] (.List [] p2) pos) (sOwn i (.lst [])) := imp_S (ps_set hN hi hx (pe_lst pa_nil) hs hf) fun E σ H ⟨fr, F, ρ, n, r, n', R, e, k⟩ => by
  rcases r with z | o
  · exact (M.pure_err e).elim
  obtain ⟨b1, b2⟩ := M.pure_ok e
  subst b1 b2
  exact ⟨Nat.zero_le _, fun p hp => k F _ _ (R.setOwn hp rfl ⟨[], upd_same, .nil⟩) (Sub.refl _)⟩
theorem S_dic_ {i : Nat} {y : Str} {px p2 pos : Pos} (hN : X.N.Nodup) (hi : X.N[i]? = some y) (hx : Loc X.env.scope y) (hs : swapsWith (.Dict [] [] p2) (some (.Name y px)) pos.line X.env = pure false := by rfl) (hf : X.fn y = true ∨ X.env.scope.names.lookup y = some .local := by first | exact .inl rfl | exact .inr rfl | assumption) : PDS X W (.Assign [.Name y px] (.Dict [] [] p2) pos) (sOwn i (.dic [] [])) := imp_S (ps_set hN hi hx pe_dnewK hs hf) fun E σ H ⟨fr, F, ρ, n, r, n', R, e, k⟩ => by
  rcases r with z | o
  · exact (M.pure_err e).elim
  obtain ⟨b1, b2⟩ := M.pure_ok e
  subst b1 b2
  exact fun p hp => k F _ _ (R.setOwn hp rfl ⟨[], rfl, upd_same, .nil⟩) (Sub.refl _)
theorem S_dit_ {i : Nat} {y : Str} {px p2 pos : Pos} (hN : X.N.Nodup) (hi : X.N[i]? = some y) (hx : Loc X.env.scope y) (hs : swapsWith (.Dict [] [] p2) (some (.Name y px)) pos.line X.env = pure false := by rfl) (hf : X.fn y = true ∨ X.env.scope.names.lookup y = some .local := by first | exact .inl rfl | exact .inr rfl | assumption) : PDS X W (.Assign [.Name y px] (.Dict [] [] p2) pos) (sOwn i (.dit [] [])) := imp_S (ps_set hN hi hx pe_dnewT hs hf) fun E σ H ⟨fr, F, ρ, n, r, n', R, e, k⟩ => by
  rcases r with z | o
  · exact (M.pure_err e).elim
  obtain ⟨b1, b2⟩ := M.pure_ok e
  subst b1 b2
  exact fun p hp => k F _ _ (R.setOwn hp rfl ⟨[], rfl, upd_same, .nil⟩) (Sub.refl _)
/-- x.append(e) -/
def uApp (d : D) : D → Option D
  | .lst ds => if ds.length < sizeLine then some (.lst (ds ++ [d])) else none
  | _ => none
def ownLst (i : Nat) (ρ : Env) : Option Unit := match own? ρ i with
  | some (.lst _) => some ()
  | _ => none
theorem ownLst_some {i : Nat} {ρ : Env} {u : Unit} (h : ownLst i ρ = some u) : ∃ ds, ρ[i]? = some (Sl.own (.lst ds)) := by
  unfold ownLst at h
  split at h
  · exact ⟨_, own_some ‹_›⟩
  · cases h
def sApp (i : Nat) (fx : EX) : SX := fun ρ => M.bind (M.opt (ownLst i ρ)) fun _ => sUp i uApp fx ρ
theorem S_app {i : Nat} {o e : Expr} {fx : EX} {apos cpos pos : Pos} (he : PD X W e fx) (hp : PE X (.Call (.Attribute o "append" apos) [e] [] cpos) (tBM X.K "list" rAppend (tVar i) (tCons (tD X W fx) tNil))) (hs : swapsWith (.Call (.Attribute o "append" apos) [e] [] cpos) none pos.line X.env = pure false := by rfl) : PDS X W (.Expr (.Call (.Attribute o "append" apos) [e] [] cpos) pos) (sApp i fx) := imp_S (ps_expr hp hs) fun E σ H ⟨fr, F, ρ, n, r, n', R, e, k⟩ => by
  rcases M.bind_any e with ⟨z, e0, rfl⟩ | ⟨ds0, n0, e0, e9⟩
  · exact (M.opt_err e0).elim
  clear e
  have e := e9
  clear e9
  obtain ⟨q0, q1⟩ := M.opt_ok e0
  subst q1
  obtain ⟨zs0, q0⟩ := ownLst_some q0
  rcases r with z | o
  · obtain ⟨ad0, s0⟩ := R.slots
    obtain ⟨z1, z2, z3, z4, ⟨zs, z5, z6⟩, z7⟩ := s0.own i _ q0
    refine ⟨_, z1, .inl ⟨rfl, _, SqL.of z5⟩, ?_⟩
    refine R.dE e (KS.x k) fun _ _ _ _ _ _ h _ _ _ => ?_
    rcases M.bind_err h with h | ⟨_, _, _, h⟩
    · exact (M.opt_err h).elim
    · exact (M.pure_err h).elim
  obtain ⟨d, a, b, e1, hi, e3, rfl⟩ := sUp_ok e
  unfold uApp at e3
  split at e3
  · split at e3
    · rename_i ds q
      cases e3
      obtain ⟨ad0, s0⟩ := R.slots
      obtain ⟨z1, z2, z3, z4, ⟨zs, z5, z6⟩, z7⟩ := s0.own i _ hi
      refine ⟨_, z1, .inl ⟨rfl, _, SqL.of z5⟩, fr, F, ρ, _, .ok d, _, R, e1, fun F1 H1 v R1 s1 d1 => ?_⟩
      obtain ⟨ad, s⟩ := R1.slots
      obtain ⟨a1, a2, a3, a4, ⟨us, a5, a6⟩, a7⟩ := s.own i _ hi
      have ea : ad i = ad0 i := by rw [a1] at z1; injection z1 with z1; injection z1 with z1; injection z1
      refine ⟨ad i, us, v, by rw [ea], rfl, a5, by rw [a6.length]; exact q, ?_⟩
      exact k F1 _ _ (R1.change s hi ⟨us ++ [v], upd_same, a6.append (.cons d1 .nil)⟩ rfl) s1
    · cases e3
  · cases e3
/-- from here on it is not changed any more -/
def frzE (i : Nat) (ρ : Env) : Option Env := (own? ρ i).bind fun d => if isO d then none else some (ρ.set i (.val d))
def sFrz (i : Nat) : SX := fun ρ => M.bind (M.opt (frzE i ρ)) fun ρ' => M.pure (.nx ρ')
theorem S_frz {i : Nat} {st : List Stmt} {g : SX} (h : PDSs X W st g) : PDSs X W st (sSeq (sFrz i) g) := imp_Ss h fun E σ H ⟨fr, F, ρ, n, r, n', R, e, k⟩ => by
  rcases M.bind_any e with ⟨z, e1, rfl⟩ | ⟨o1, n1, e1, h1⟩
  · rcases M.bind_err e1 with h | ⟨_, _, _, h⟩
    · exact (M.opt_err h).elim
    · exact (M.pure_err h).elim
  obtain ⟨ρ1, n2, e2, h2⟩ := M.bind_ok e1
  obtain ⟨e3, e4⟩ := M.opt_ok e2
  obtain ⟨e5, e6⟩ := M.pure_ok h2
  subst e5 e4
  subst e6
  unfold frzE at e3
  cases q : own? ρ i with
  | none => rw [q] at e3; cases e3
  | some d =>
    rw [q] at e3
    have hi := own_some q
    have e3 : (if isO d then none else some (ρ.set i (.val d))) = some ρ1 := e3
    split at e3
    · cases e3
    · rename_i hd
      cases e3
      obtain ⟨ad, s⟩ := R.slots
      have hx : fr.H0 (ad i) = none := by
        obtain ⟨a1, a2, a3, a4, a5, a6⟩ := s.own i _ hi
        rcases a6 with a6 | a6
        · exact absurd a6.1 hd
        · exact a6.2
      obtain ⟨F', s', R'⟩ := R.freeze s hi hx
      exact ⟨fr, F', _, _, r, n', R', h1, resS_mono s' k⟩
end
end DL
end

section
set_option Elab.async false
set_option linter.all false
set_option autoImplicit false
set_option maxRecDepth 100000
set_option maxHeartbeats 1000000
namespace DL
open PySem PySem.Spec L2
open PyProof.Rows (envOfC)
section
variable {X : Cx} {W : Wd} {x : Str} {p pos : Pos} {e : Expr} {es : List Expr}

/-! ### built-ins -/
def dInts : List D → Option (List Int)
  | [] => some []
  | .int i :: r => match dInts r with | some ns => some (i :: ns) | none => none
  | _ => none
theorem ints_of {K : PySem.W.Frag} {dr : Option Addr} {F : Hp} : ∀ {vs : List V} {ds : List D} {ns : List Int}, Dens K W dr F vs ds → dInts ds = some ns → vs = ns.map V.int
  | _, _, _, .nil, e => by unfold dInts at e; cases e; rfl
  | _, _, _, .cons h r, e => by
    unfold dInts at e
    split at e
    · rename_i q; cases q
    · rename_i q
      split at e
      · cases q; cases e; cases h
        rw [ints_of r ‹_›]; rfl
      · cases e
    · cases e
def dBls : List D → Option (List Bool)
  | [] => some []
  | .bl i :: r => match dBls r with | some ns => some (i :: ns) | none => none
  | _ => none
theorem bls_of {K : PySem.W.Frag} {dr : Option Addr} {F : Hp} : ∀ {vs : List V} {ds : List D} {ns : List Bool}, Dens K W dr F vs ds → dBls ds = some ns → vs = ns.map V.bl
  | _, _, _, .nil, e => by unfold dBls at e; cases e; rfl
  | _, _, _, .cons h r, e => by
    unfold dBls at e
    split at e
    · rename_i q; cases q
    · rename_i q
      split at e
      · cases q; cases e; cases h
        rw [bls_of r ‹_›]; rfl
      · cases e
    · cases e
def dSum : List D → Option D
  | [.lst ds] => match dInts ds with | some ns => some (.int ns.sum) | none => none
  | _ => none
def dAny : List D → Option D
  | [.lst ds] => match dBls ds with | some ns => some (.bl (ns.any id)) | none => none
  | _ => none
def dAll : List D → Option D
  | [.lst ds] => match dBls ds with | some ns => some (.bl (ns.all id)) | none => none
  | _ => none
theorem q_sum {K : PySem.W.Frag} : CallD K W (rSum K) dSum := by
  intro fr F H σ ρ n xs d vs Q R dx h k
  unfold dSum at h
  split at h
  · split at h
    · cases h
      cases dx with
      | cons h1 h2 =>
        cases h2
        cases h1 with
        | lst h3 h4 =>
          have := ints_of h4 ‹_›
          subst this
          exact ⟨_, _, rfl, SqL.of (R.core.sub _ _ h3), k F H _ R (Sub.refl _) (.int _)⟩
    · cases h
  · cases h
theorem q_any {K : PySem.W.Frag} : CallD K W (rAny K) dAny := by
  intro fr F H σ ρ n xs d vs Q R dx h k
  unfold dAny at h
  split at h
  · split at h
    · cases h
      cases dx with
      | cons h1 h2 =>
        cases h2
        cases h1 with
        | lst h3 h4 =>
          have := bls_of h4 ‹_›
          subst this
          exact ⟨_, _, rfl, SqL.of (R.core.sub _ _ h3), k F H _ R (Sub.refl _) (.bl _)⟩
    · cases h
  · cases h
theorem q_all {K : PySem.W.Frag} : CallD K W (rAll K) dAll := by
  intro fr F H σ ρ n xs d vs Q R dx h k
  unfold dAll at h
  split at h
  · split at h
    · cases h
      cases dx with
      | cons h1 h2 =>
        cases h2
        cases h1 with
        | lst h3 h4 =>
          have := bls_of h4 ‹_›
          subst this
          exact ⟨_, _, rfl, SqL.of (R.core.sub _ _ h3), k F H _ R (Sub.refl _) (.bl _)⟩
    · cases h
  · cases h
def dAbs : List D → Option D
  | [.int i] => some (.int (if i < 0 then -i else i))
  | _ => none
theorem q_abs {K : PySem.W.Frag} : CallD K W (fun xs H Q => ∃ i, xs = [.int i] ∧ Q (.int (if i < 0 then -i else i)) H) dAbs := by
  intro fr F H σ ρ n xs d vs Q R dx h k
  unfold dAbs at h
  split at h
  · cases h
    cases dx with
    | cons h1 h2 => cases h2; cases h1; exact ⟨_, rfl, k F H _ R (Sub.refl _) (.int _)⟩
  · cases h
def dMin2 : List D → Option D
  | [.int i, .int j] => some (.int (if j < i then j else i))
  | _ => none
def dMax2 : List D → Option D
  | [.int i, .int j] => some (.int (if j > i then j else i))
  | _ => none
theorem q_min2 {K : PySem.W.Frag} : CallD K W (fun xs H Q => ∃ i j, xs = [.int i, .int j] ∧ Q (.int (if j < i then j else i)) H) dMin2 := by
  intro fr F H σ ρ n xs d vs Q R dx h k
  unfold dMin2 at h
  split at h
  · cases h
    cases dx with
    | cons h1 h2 => cases h2 with
      | cons h2 h3 => cases h3; cases h1; cases h2; exact ⟨_, _, rfl, k F H _ R (Sub.refl _) (.int _)⟩
  · cases h
theorem q_max2 {K : PySem.W.Frag} : CallD K W (fun xs H Q => ∃ i j, xs = [.int i, .int j] ∧ Q (.int (if j > i then j else i)) H) dMax2 := by
  intro fr F H σ ρ n xs d vs Q R dx h k
  unfold dMax2 at h
  split at h
  · cases h
    cases dx with
    | cons h1 h2 => cases h2 with
      | cons h2 h3 => cases h3; cases h1; cases h2; exact ⟨_, _, rfl, k F H _ R (Sub.refl _) (.int _)⟩
  · cases h
def dInt : List D → Option D
  | [.int i] => some (.int i)
  | [.bl b] => some (.int (if b then 1 else 0))
  | _ => none
theorem q_int {K : PySem.W.Frag} : CallD K W (fun xs H Q => (∃ i, xs = [.int i] ∧ Q (.int i) H) ∨ ∃ k, xs = [.bl k] ∧ Q (.int (if k then 1 else 0)) H) dInt := by
  intro fr F H σ ρ n xs d vs Q R dx h k
  unfold dInt at h
  split at h
  · cases h
    cases dx with
    | cons h1 h2 => cases h2; cases h1; exact .inl ⟨_, rfl, k F H _ R (Sub.refl _) (.int _)⟩
  · cases h
    cases dx with
    | cons h1 h2 => cases h2; cases h1; exact .inr ⟨_, rfl, k F H _ R (Sub.refl _) (.int _)⟩
  · cases h
def dTupOf : List D → Option D
  | [.lst ds] => some (.tup ds)
  | [.tup ds] => some (.tup ds)
  | _ => none
theorem q_tupOf {K : PySem.W.Frag} : CallD K W (fun xs H Q => ∃ p ys, xs = [.ref p] ∧ ((SqL K H p ys ∧ ∀ l, H l = none → Q (.ref l) (upd H l (.tup ys))) ∨ (SqT K H p ys ∧ Q (.ref p) H))) dTupOf := by
  intro fr F H σ ρ n xs d vs Q R dx h k
  unfold dTupOf at h
  split at h
  · cases h
    cases dx with
    | cons h1 h2 =>
      cases h2
      cases h1 with
      | lst h3 h4 => exact ⟨_, _, rfl, .inl ⟨SqL.of (R.core.sub _ _ h3), put_tup R h4 k⟩⟩
  · cases h
    cases dx with
    | cons h1 h2 =>
      cases h2
      cases h1 with
      | tup h3 h4 => exact ⟨_, _, rfl, .inr ⟨R.core.sub.sqT h3, k F H _ R (Sub.refl _) (.tup h3 h4)⟩⟩
  · cases h
def dLstOf : List D → Option D
  | [.lst ds] => some (.lst ds)
  | [.tup ds] => some (.lst ds)
  | _ => none
theorem q_lstOf {K : PySem.W.Frag} : CallD K W (fun xs H Q => ∃ p ys, xs = [.ref p] ∧ (SqL K H p ys ∨ SqT K H p ys) ∧ ∀ l, H l = none → Q (.ref l) (upd H l (.lst ys))) dLstOf := by
  intro fr F H σ ρ n xs d vs Q R dx h k
  unfold dLstOf at h
  split at h
  · cases h
    cases dx with
    | cons h1 h2 =>
      cases h2
      cases h1 with
      | lst h3 h4 => exact ⟨_, _, rfl, .inl (SqL.of (R.core.sub _ _ h3)), put_lst R h4 k⟩
  · cases h
    cases dx with
    | cons h1 h2 =>
      cases h2
      cases h1 with
      | tup h3 h4 => exact ⟨_, _, rfl, .inr (R.core.sub.sqT h3), put_lst R h4 k⟩
  · cases h

/-! ### x op= e -/
def sAug (i : Nat) (op : D → D → Option D) (fx : EX) : SX := fun ρ => M.bind (eVar i ρ) fun a => M.bind (fx ρ) fun b => M.bind (M.opt (op a b)) fun d => M.pure (.nx (ρ.set i (.val d)))
theorem S_aug {i : Nat} {y : Str} {f : Int → Int → Int} {fx : EX} {op : Operator} {pos' pos : Pos} (hN : X.N.Nodup) (hi : X.N[i]? = some y) (hx : Loc X.env.scope y) (he : PD X W e fx) (ho : PIp X op (ipI f)) (hf : X.fn y = true ∨ X.env.scope.names.lookup y = some .local := by first | exact .inl rfl | exact .inr rfl | assumption) :
    PDS X W (.AugAssign (.Name y pos') op e pos) (sAug i (dI (fun _ _ => true) fun a b => .int (f a b)) fx) := imp_S (ps_aug hN hi hx he ho hf) fun E σ H ⟨fr, F, ρ, n, r, n', R, e, k⟩ => by
  rcases r with z | o
  · rcases M.bind_err e with h | ⟨a, n1, e1, h1⟩
    · exact (M.opt_err h).elim
    obtain ⟨e8, e9⟩ := eVar_some e1
    subst e9
    obtain ⟨ad, s⟩ := R.slots
    obtain ⟨v, q1, q2⟩ := s.val i a e8
    refine ⟨v, q1, R.dE h1 (KS.x k) fun _ _ _ _ _ _ h _ _ _ => ?_⟩
    rcases M.bind_err h with h | ⟨_, _, _, h⟩
    · exact (M.opt_err h).elim
    · exact (M.pure_err h).elim
  obtain ⟨a, n1, e1, h1⟩ := M.bind_ok e
  obtain ⟨b, n2, e2, h2⟩ := M.bind_ok h1
  obtain ⟨d, n3, e3, h3⟩ := M.bind_ok h2
  obtain ⟨e4, e5⟩ := M.opt_ok e3
  obtain ⟨e6, e7⟩ := M.pure_ok h3
  obtain ⟨e8, e9⟩ := eVar_some e1
  clear e h1 h2 h3 e3
  subst e9 e6
  subst e7
  subst e5
  obtain ⟨ad, s⟩ := R.slots
  obtain ⟨v, q1, q2⟩ := s.val i a e8
  refine ⟨v, q1, fr, F, ρ, _, .ok b, _, R, e2, fun F1 H1 u R1 s1 d1 => ?_⟩
  unfold dI at e4
  split at e4
  · simp only [if_true] at e4
    cases e4; cases q2; cases d1
    exact ⟨_, _, rfl, rfl, k F1 H1 _ (R1.set (.int _)) s1⟩
  · cases e4

/-! ### the draws -/
/-- the law's script, by its place in the draw -/
def eDrw0 (fx : EX) : EX := fun ρ => M.bind (fx ρ) fun d => match d with
  | .drw => M.pure .scr
  | _ => M.opt none
def eDrw1 (fx : EX) : EX := fun ρ => M.bind (fx ρ) fun d => match d with
  | .drw => fun n => some (.ok (.int n), n)
  | _ => M.opt none
theorem d_drw0 {a : Expr} {fa : EX} {p2 pos : Pos} {jj : Nat} (ha : PD X W a fa) : PD X W (.Subscript a (.Constant (.int 0) jj p2) pos) (eDrw0 fa) := imp_E (pe_ix ix_list ha pe_int (fun _ _ => rfl)) fun σ H Q ⟨fr, F, ρ, n, r, n', R, e, k⟩ => by
  rcases r with z | d
  · refine R.dE e k fun _ _ _ _ _ _ h _ _ _ => ?_
    split at h
    · exact (M.pure_err h).elim
    · exact (M.opt_err h).elim
  obtain ⟨x, n1, e1, h1⟩ := M.bind_ok e
  refine ⟨fr, F, ρ, n, .ok x, n1, R, e1, fun F1 H1 v R1 s1 d1 => ?_⟩
  split at h1
  · obtain ⟨b1, b2⟩ := M.pure_ok h1
    subst b1 b2
    cases d1 with
    | drw q =>
      obtain ⟨q1, q2, q3⟩ := R1.core.draw _ q
      exact ⟨_, _, 0, .ref fr.sa, rfl, rfl, SqL.of q2, rfl, k F1 H1 _ R1 s1 (.scr q3)⟩
  · cases (M.opt_ok h1).1
theorem d_drw1 {a : Expr} {fa : EX} {p2 pos : Pos} {jj : Nat} (ha : PD X W a fa) : PD X W (.Subscript a (.Constant (.int 1) jj p2) pos) (eDrw1 fa) := imp_E (pe_ix ix_list ha pe_int (fun _ _ => rfl)) fun σ H Q ⟨fr, F, ρ, n, r, n', R, e, k⟩ => by
  rcases r with z | d
  · refine R.dE e k fun _ _ _ _ _ _ h _ _ _ => ?_
    split at h
    · cases h
    · exact (M.opt_err h).elim
  obtain ⟨x, n1, e1, h1⟩ := M.bind_ok e
  refine ⟨fr, F, ρ, n, .ok x, n1, R, e1, fun F1 H1 v R1 s1 d1 => ?_⟩
  split at h1
  · cases h1
    cases d1 with
    | drw q =>
      obtain ⟨q1, q2, q3⟩ := R1.core.draw _ q
      exact ⟨_, _, 1, .int _, rfl, rfl, SqL.of q2, rfl, k F1 H1 _ R1 s1 (.int _)⟩
  · cases (M.opt_ok h1).1
def isDrw : D → Bool | .drw => true | _ => false
/-- draw[1] += 1 -/
def sDrw (fx : EX) : SX := fun ρ => M.bind (fx ρ) fun d => if isDrw d then fun n => some (.ok (.nx ρ), n + 1) else M.opt none
def rGetL (K : PySem.W.Frag) : V → V → Hp → VK → Prop := fun x y H Q => ∃ p xs j v, x = .ref p ∧ y = .int ((j : Nat) : Int) ∧ SqL K H p xs ∧ xs[j]? = some v ∧ Q v H
theorem get_list : PGet X (rGetL X.K) := by
  intro pins s σ H x y v u Q I rx ry h
  obtain ⟨p, xs, j, z, rfl, rfl, hq, he, q⟩ := h
  cases rx
  obtain ⟨t, rfl⟩ := ry
  obtain ⟨its, r, pl, hz⟩ := I.list hq
  obtain ⟨w, ew, rw'⟩ := r.get he
  have hl := r.length
  have hn := line63
  have hj : j < its.length := (List.getElem?_eq_some_iff.mp ew).1
  exact wpAny_getItem_list pl.isList (by omega) (by omega) (by simpa using ew) ⟨z, H, I, rw', q⟩
theorem Rel.drawn {K : PySem.W.Frag} {fr : Fr} {F H : Hp} {σ : St} {ρ : Env} {n m : Int} {a : Addr} (r : Rel K W fr F H σ ρ n) (q : fr.dr = some a) : Rel K W fr F (upd H a (.lst [.ref fr.sa, .int m])) σ ρ m := by
  have c := r.core
  obtain ⟨ad, s⟩ := r.slots
  obtain ⟨q1, q2, q3⟩ := c.draw _ q
  refine ⟨⟨fun b u z => ?_, fun b u z z2 z3 => ?_, c.f0, c.new, fun b u z => ?_, fun b z => ?_, c.ntF, ?_⟩, ad, s.len, s.val, fun i d z => ?_, s.inj⟩
  · rw [upd_ne (ne_of_none z q1)]; exact c.sub _ _ z
  · rw [upd_ne (fun e => z2 (by rw [e]; exact q))]; exact c.base b u z z2 z3
  · by_cases e : b = a
    · rw [e]; exact ⟨_, upd_same, fun _ z => by cases z⟩
    · obtain ⟨o', z', nt⟩ := c.there b u z
      exact ⟨o', by rw [upd_ne e]; exact z', nt⟩
  · rw [q] at z
    cases z
    exact ⟨q1, upd_same, q3⟩
  · refine tabs_keep c.tabs fun b u z sd => ?_
    have ne : b ≠ a := fun e => by subst e; exact (sd_of q2) _ z sd
    rw [upd_ne ne]; exact z
  · obtain ⟨z1, z2, z3, z4, z5, z6⟩ := s.own i d z
    exact ⟨z1, z2, z3, z4, z5.mono (Sub.refl _) (fun u e => by rw [upd_ne (fun e' => z3 (by rw [e']; exact q))]; exact e), z6⟩
theorem S_drw {a : Expr} {fa : EX} {p2 p3 p4 pos : Pos} {jj kk : Nat} (ha : PD X W a fa) : PDS X W (.AugAssign (.Subscript a (.Constant (.int 1) jj p2) p4) .Add (.Constant (.int 1) kk p3) pos) (sDrw fa) := imp_S (ps_augS ha pe_int get_list pe_int ip_add set_list) fun E σ H ⟨fr, F, ρ, n, r, n', R, e, k⟩ => by
  rcases r with z | o
  · refine R.dE e (KS.x k) fun _ _ _ _ _ _ h _ _ _ => ?_
    split at h
    · cases h
    · exact (M.opt_err h).elim
  obtain ⟨x, n1, e1, h1⟩ := M.bind_ok e
  refine ⟨fr, F, ρ, n, .ok x, n1, R, e1, fun F1 H1 v R1 s1 d1 => ?_⟩
  split at h1
  · rename_i hx
    cases h1
    unfold isDrw at hx
    split at hx
    · cases d1 with
      | drw q =>
        obtain ⟨q1, q2, q3⟩ := R1.core.draw _ q
        exact ⟨_, _, 1, _, rfl, rfl, SqL.of q2, rfl, _, _, rfl, rfl, _, _, _, 1, rfl, rfl, q2, rfl, k F1 _ σ (R1.drawn q) s1⟩
    · cases hx
  · cases (M.opt_ok h1).1
/-- the script: is it empty, its length, its items -/
def dScrNil (W : Wd) : D → D → Option D
  | .scr, .lst [] => some (.bl W.ns.isEmpty)
  | _, _ => none
def intsPy (ns : List Int) : List PyData := ns.map PyData.int
theorem dpAll_ints {K : PySem.W.Frag} {H : Hp} : ∀ ns : List Int, DpAll K H (ns.map V.int) (intsPy ns)
  | [] => .nil
  | i :: r => .cons (.int i) (dpAll_ints r)
theorem canLay_ints : ∀ ns : List Int, PyData.canLayAll0 (intsPy ns) = true
  | [] => by unfold intsPy; rfl
  | i :: r => by
    have := canLay_ints r
    unfold intsPy at this ⊢
    rw [List.map_cons]
    unfold PyData.canLayAll0
    rw [this]; unfold PyData.canLay0; rfl
theorem depth_ints : ∀ ns : List Int, PyData.depthAll (intsPy ns) = 0
  | [] => by unfold intsPy; rfl
  | i :: r => by
    have := depth_ints r
    unfold intsPy at this ⊢
    rw [List.map_cons]
    unfold PyData.depthAll
    rw [this]; unfold PyData.depth; rfl
theorem shaped_ints (ns : List Int) : SeqAt.shaped (.list (intsPy ns)) = true := by
  unfold SeqAt.shaped
  unfold PyData.canLay0 PyData.depth
  rw [canLay_ints, depth_ints]; rfl
theorem d_scrNil {a b : Expr} {fa fb : EX} {pos : Pos} (hu : X.A.units + 64 < cLine) (ha : PD X W a fa) (hb : PD X W b fb) : PD X W (.Compare a [.Eq] [b] pos) (e2 (dScrNil W) fa fb) := d_cmp (op_eqD hu) (by
  intro fr F H σ ρ n x y d v u Q R dx dy h k
  unfold dScrNil at h
  split at h
  · cases h
    cases dx with
    | scr h1 =>
      cases dy with
      | lst h2 h3 =>
        cases h3
        refine ⟨.list (intsPy W.ns), .list [], .lst (R.core.sub.sqL h1) (dpAll_ints _), .lst (SqL.of (R.core.sub _ _ h2)) .nil, shaped_ints _, by decide, ?_⟩
        have : PyData.eqv (.list (intsPy W.ns)) (.list []) = W.ns.isEmpty := by
          unfold PyData.eqv
          cases e : W.ns with
          | nil => rfl
          | cons i r => rfl
        rw [this]
        exact k F H _ R (Sub.refl _) (.bl _)
  · cases h) ha hb (nomark _)
def dLenS (W : Wd) : List D → Option D
  | [.scr] => some (.int W.ns.length)
  | _ => none
theorem q_lenS {K : PySem.W.Frag} : CallD K W (fun xs H Q => ∃ x n, xs = [x] ∧ LenV K x H n ∧ Q (.int n) H) (dLenS W) := by
  intro fr F H σ ρ n xs d vs Q R dx h k
  unfold dLenS at h
  split at h
  · cases h
    cases dx with
    | cons h1 h2 =>
      cases h2
      cases h1 with
      | scr h3 => exact ⟨_, W.ns.length, rfl, .inl ⟨_, R.core.sub.sqL h3, by simp⟩, k F H _ R (Sub.refl _) (.int _)⟩
  · cases h
def dIxS (W : Wd) : D → D → Option D
  | .scr, .int i => (atI W.ns i).map D.int
  | _, _ => none
theorem atI_map {α β : Type} (f : α → β) (xs : List α) (i : Int) : atI (xs.map f) i = (atI xs i).map f := by
  unfold atI
  rw [List.length_map]
  cases ixN xs.length i with
  | none => rfl
  | some j => simp
theorem d_ixS {a b : Expr} {fa fb : EX} {pos : Pos} (ha : PD X W a fa) (hb : PD X W b fb) (hs : PlainIx b := by exact fun _ _ => rfl) : PD X W (.Subscript a b pos) (e2 (dIxS W) fa fb) := imp_E (pe_ix ix_list ha hb hs) fun σ H Q h => d_tOp (by
  intro fr F H σ ρ n x y d v u Q R dx dy h k
  unfold dIxS at h
  split at h
  · cases dx with
    | scr h1 =>
      cases dy
      rename_i i _
      cases e : atI W.ns i with
      | none => rw [e] at h; cases h
      | some z =>
        rw [e] at h
        cases h
        exact ⟨_, _, _, .int z, rfl, rfl, R.core.sub.sqL h1, by rw [atI_map, e]; rfl, k F H _ R (Sub.refl _) (.int _)⟩
  · cases h) h

end

/-! ### the law -/
def spLaw (K : PySem.W.Frag) (T : List (Addr × Str)) : Sp := fun vs H Q _ => ∃ (a : Addr) (ns : List Int), vs = [.ref a] ∧ SqL K H a (ns.map V.int) ∧ ns.length ≤ 63 ∧ LamX.Tabs T H ∧ ∀ H', Q (.bl true) H'
/-- the law's first statement is «draw = [script, 0]» -/
theorem okLaw {P : Program} {w : World} {K : PySem.W.Frag} {mg : Str → Option Value} {base : Heap} {x qual : Str} {st : Stmt} {f : Addr} {fd : FuncData} {N : List Str} {k : Nat} {y z : Str} {px py pl p0 pa : Pos} {jj : Nat} {rest : List Stmt} {cl : Nat → Addr} {T : List (Addr × Str)} (g : Wd → SX)
    (F : Fun K x qual st f fd) (S : FnScope N [y] (defScope st)) (hbody : defBody st = .Assign [.Name z px] (.List [.Name y py, .Constant (.int 0) jj p0] pl) pa :: rest)
    (first : ∀ (cdv : Value) (A : Around) (outer : List PySem.Env) (s : Shared) (H : Hp) (E : XK), PS (cxOf (L2.CX P w) P w K mg base N qual (defScope st) f cdv A outer s H E) (.Assign [.Name z px] (.List [.Name y py, .Constant (.int 0) jj p0] pl) pa) (tAsg (tLst (tCons (tVar 0) (tCons (tC (.int 0)) tNil))) (gName 1)))
    (body : ∀ (W : Wd), W.cl = cl → W.tb = T → ∀ (cdv : Value), Cdv fd cdv → ∀ (A : Around) (outer : List PySem.Env) (s : Shared) (H : Hp) (E : XK), Room k (A.deeper (envOfC qual (defScope st) s.heap.objs.size f cdv)) → PDSs (cxOf (L2.CX P w) P w K mg base N qual (defScope st) f cdv A outer s H E) W rest (g W))
    (good : ∀ W : Wd, W.ns.length ≤ 63 → W.cl = cl → ∃ n', g W (.val .scr :: .val .drw :: List.replicate (N.length - 2) Sl.no) 0 = some (.ok (.ret (.bl true)), n')) (hN : 2 ≤ N.length) :
    FnOk P w K mg base (L2.CX P w) (k + 1) f fd [y] (spLaw K T) := by
  refine fn_okXc F S (fun vs H Q E h => ?_) fun cdv hcd A outer s H vs Q E hr h => ?_
  · obtain ⟨a, ns, rfl, _⟩ := h
    rfl
  · obtain ⟨a, ns, rfl, hS, hl, hT, hk⟩ := h
    rw [hbody]
    refine ⟨_, pss_cons (first cdv A outer s H E) (body ⟨cl, ns, T⟩ rfl rfl cdv hcd A outer s H E hr), ?_⟩
    refine ⟨_, rfl, (by show 2 ≤ sizeLine; decide), fun p hp => ?_⟩
    obtain ⟨n', e⟩ := good ⟨cl, ns, T⟩ hl rfl
    have hne : p ≠ a ∨ ∃ o, K.lookup a = some o := by
      rcases hS with (h | ⟨o, h⟩) | ⟨o, _, _, h, _⟩
      · exact .inl fun e => by rw [e, h] at hp; cases hp
      · exact .inl fun e => by rw [e, h] at hp; cases hp
      · exact .inr ⟨o, h⟩
    let F0 : Hp := fun b => if b = p then none else if b = a then mask H a else none
    have fa : ∀ u, F0 a = some u → H a = some u := fun u q => by
      by_cases e : a = p
      · simp [F0, e] at q
      · have q : mask H a = some u := by simpa [F0, e] using q
        exact (of_mask q).1
    have hF : SqL K F0 a (ns.map V.int) := by
      rcases hS with (h | ⟨o, h⟩) | h
      · have : a ≠ p := fun e => by rw [← e, h] at hp; cases hp
        exact .inl (.inl (by simp only [F0, if_neg this, if_true]; exact mask_of h))
      · have : a ≠ p := fun e => by rw [← e, h] at hp; cases hp
        exact .inl (.inr ⟨o, by simp only [F0, if_neg this, if_true]; exact mask_of h⟩)
      · exact .inr h
    have hsub : Sub F0 (upd H p (.lst [.ref a, .int 0])) := fun b u q => by
      by_cases e : b = p
      · simp [F0, e] at q
      · by_cases e2 : b = a
        · subst e2
          rw [upd_ne e]; exact fa u q
        · simp [F0, e, e2] at q
    have nt0 : ∀ b u, F0 b = some u → NT u := fun b u q => by
      by_cases e : b = p
      · simp [F0, e] at q
      · by_cases e2 : b = a
        · subst e2
          have q : mask H b = some u := by simpa [F0, e] using q
          exact (of_mask q).2
        · simp [F0, e, e2] at q
    have c : Core K ⟨cl, ns, T⟩ ⟨some p, a, mask (upd H p (.lst [.ref a, .int 0])), F0, fun _ => False⟩ F0 (upd H p (.lst [.ref a, .int 0])) 0 :=
      ⟨hsub, fun _ _ h _ _ => (of_mask h).1, Sub.refl _, fun _ _ _ h => h, fun _ o h => ⟨o, of_mask h⟩, fun b q => by
        cases q
        exact ⟨by simp [F0], upd_same, hF⟩, nt0, tabs_keep hT fun b u q _ => by rw [upd_ne (ne_of_none q hp)]; exact q⟩
    refine ⟨_, F0, _, 0, _, n', ⟨c, fun _ => 0, ?_, fun i d q => ?_, fun i d q => ?_, fun i j d d' q _ => ?_⟩, e, fun F' H' v c' s' d' => ?_⟩
    · unfold L2.start
      simp
      omega
    · cases i with
      | zero =>
        cases q
        refine ⟨.ref a, ?_, .scr hF⟩
        show (List.set _ 1 _)[0]? = _
        rw [List.getElem?_set_ne (by decide)]; rfl
      | succ i =>
        cases i with
        | zero =>
          cases q
          refine ⟨.ref p, ?_, .drw rfl⟩
          rw [get_set_self (by unfold L2.start; simp; omega)]
        | succ i =>
          have := List.mem_of_getElem? (show (List.replicate (N.length - 2) Sl.no)[i]? = some (Sl.val d) from q)
          rw [List.mem_replicate] at this
          cases this.2
    · cases i with
      | zero => cases q
      | succ i =>
        cases i with
        | zero => cases q
        | succ i =>
          have := List.mem_of_getElem? (show (List.replicate (N.length - 2) Sl.no)[i]? = some (Sl.own d) from q)
          rw [List.mem_replicate] at this
          cases this.2
    · cases i with
      | zero => cases q
      | succ i =>
        cases i with
        | zero => cases q
        | succ i =>
          have := List.mem_of_getElem? (show (List.replicate (N.length - 2) Sl.no)[i]? = some (Sl.own d) from q)
          rw [List.mem_replicate] at this
          cases this.2
    · cases d'
      exact hk H'
theorem law_walk {l : PySem.W.OpenLaw} {q : Program} {loose : List Str} {XP : (Str → Option Value) → Heap → Prop} {YP : World → Heap → Prop} {d : DefRec} {K : Params → PySem.W.Frag} {k : Nat} {x : Str} (hn : l.most = some 63) (hdf : d.params.defaults = []) (hr : Room k callerA)
    (hY : ∀ (w : World) (h : Heap), YP w h → (K w.params).In h)
    (F : ∀ (w : World) (mg : Str → Option Value) (fa : Addr) (h : Heap), (K w.params).In h → h.Ns mainGlobals mg → mg d.name = some (.ref fa) →
      ∃ fd : FuncData, (∀ (s : Shared) (u : Value), BindsTo s fd ⟨[u], []⟩ [(x, u)]) ∧ ∀ base : Heap, (K w.params).In base → base.Ns mainGlobals mg → FnOk l.prog w (K w.params) mg base (L2.CX l.prog w) k fa fd [x] (spLaw (K w.params) [])) :
    PySem.W.WalkO q loose XP YP l.row.toRowW d [] (fun f vs => PySem.call f vs) :=
  L2.walk_of (n := 63) (k := k) (x := x) (CX := fun w => L2.CX l.prog w) (sp := fun w => spLaw (K w.params) []) hn (by decide) hdf hr hY F (fun _ _ a ns hl _ hS => ⟨a, ns, rfl, hS, hl, (fun _ hp => absurd hp List.not_mem_nil), fun _ => rfl⟩) fun _ _ _ _ _ ⟨_, _, _, _, _, _, _, _, _, _, _, _, z⟩ => z
end DL
end

section
set_option Elab.async false
set_option linter.all false
set_option autoImplicit false
set_option maxRecDepth 100000
set_option maxHeartbeats 1000000
namespace DL
open PySem PySem.Spec L2
/-! ### callees, bundled -/
def Cal (P : Program) (w : World) (K : PySem.W.Frag) (mg : Str → Option Value) (base : Heap) (x : Str) (k : Nat) (sp : Sp) : Prop :=
  ∃ f fd ps, FnOk P w K mg base (L2.CX P w) k f fd ps sp ∧ mg x = some (.ref f) ∧ PySem.W.keepIn K (.ref f) = true ∧ Binds K fd ps []
def CalM (P : Program) (w : World) (K : PySem.W.Frag) (mg : Str → Option Value) (base : Heap) (C : Addr) (m : Str) (k : Nat) (sp : Sp) : Prop :=
  ∃ f fd ps, FnOk P w K mg base (L2.CX P w) k f fd ps sp ∧ Meth K C m f ∧ Binds K fd ps []
def CalI (P : Program) (w : World) (K : PySem.W.Frag) (mg : Str → Option Value) (base : Heap) (C : Addr) (x : Str) (k : Nat) (sp : Sp) : Prop :=
  ∃ f fd ps, FnOk P w K mg base (L2.CX P w) k f fd ps sp ∧ Mk K C f ∧ mg x = some (.ref C) ∧ Binds K fd ps []
section
variable {X : Cx} {W : Wd} {k : Nat} {x m : Str} {p pos apos : Pos} {e o : Expr} {es : List Expr} {fx : FX} {fo : EX} {fs : EXs} {mm c : Nat} {pl : Sem Bool}
theorem c_call (F : Cal X.prog X.w X.K X.mg X.base x k (spD X.K W fx mm)) (hr : Room k X.A) (hg : Gl X x)
    (ha : PDs X W (e :: es) fs) (hl : ∀ ρ n ds n', fs ρ n = some (.ok ds, n') → ds.length = mm) (hdb : (x == ("__debug__" : Str)) = false := by decide) (he : starEach (e :: es) X.env = (false, eval e X.env) :: starEach es X.env := by rfl) (hpl : (backTo pos (starEach es X.env)).any (·.1) = false := by rfl) :
    PD X W (.Call (.Name x p) (e :: es) [] pos) (eCall fx fs) := by
  obtain ⟨f, fd, ps, h1, h2, h3, h4⟩ := F
  exact d_call h1 hr hg h2 h3 h4 ha hl hdb he hpl
theorem c_call0 (F : Cal X.prog X.w X.K X.mg X.base x k (spD X.K W fx 0)) (hr : Room k X.A) (hg : Gl X x) (hdb : (x == ("__debug__" : Str)) = false := by decide) :
    PD X W (.Call (.Name x p) [] [] pos) (eCall fx eNil) := by
  obtain ⟨f, fd, ps, h1, h2, h3, h4⟩ := F
  exact d_call0 h1 hr hg h2 h3 h4 hdb
theorem c_meth (F : CalM X.prog X.w X.K X.mg X.base (W.cl c) m k (spD X.K W fx (mm + 1))) (hr : Room k X.A) (cl : Cls X.K (W.cl c)) (ho : PD X W o fo) (ha : PDs X W (e :: es) fs) (hl : ∀ ρ n ds n', fs ρ n = some (.ok ds, n') → ds.length = mm)
    (hst : starEach (e :: es) X.env = (false, eval e X.env) :: starEach es X.env := by rfl) (hpl : (backTo pos (starEach es X.env)).any (·.1) = false := by rfl)
    (ht : eval (.Call (.Attribute o m apos) (e :: es) [] pos) X.env = (do
      let ov ← eval o X.env
      standAt apos.atName
      let (f, first) ← holding [ov] (getMethod ov m pl)
      callWith pos f first (backTo pos (starEach (e :: es) X.env)) (backToKw pos (keywordEach [] X.env))) := by rfl) :
    PD X W (.Call (.Attribute o m apos) (e :: es) [] pos) (eMeth c m fx fo fs) := by
  obtain ⟨f, fd, ps, h1, h2, h4⟩ := F
  exact d_meth ho cl h2 h1 hr h4 ha hl hst hpl ht
theorem c_meth0 (F : CalM X.prog X.w X.K X.mg X.base (W.cl c) m k (spD X.K W fx 1)) (hr : Room k X.A) (cl : Cls X.K (W.cl c)) (ho : PD X W o fo)
    (ht : eval (.Call (.Attribute o m apos) [] [] pos) X.env = (do
      let ov ← eval o X.env
      standAt apos.atName
      let (f, first) ← holding [ov] (getMethod ov m pl)
      callWith pos f first (backTo pos (starEach [] X.env)) (backToKw pos (keywordEach [] X.env))) := by rfl) :
    PD X W (.Call (.Attribute o m apos) [] [] pos) (eMeth c m fx fo eNil) := by
  obtain ⟨f, fd, ps, h1, h2, h4⟩ := F
  exact d_meth0 ho cl h2 h1 hr h4 ht
theorem c_make (F : CalI X.prog X.w X.K X.mg X.base (W.cl c) x k (spI X.K W fx c mm)) (hr : Room (k + 1) X.A) (hg : Gl X x)
    (ha : PDs X W (e :: es) fs) (hl : ∀ ρ n ds n', fs ρ n = some (.ok ds, n') → ds.length = mm) (hdb : (x == ("__debug__" : Str)) = false := by decide) (he : starEach (e :: es) X.env = (false, eval e X.env) :: starEach es X.env := by rfl) (hpl : (backTo pos (starEach es X.env)).any (·.1) = false := by rfl) :
    PD X W (.Call (.Name x p) (e :: es) [] pos) (eMake c fx fs) := by
  obtain ⟨f, fd, ps, h1, h2, h3, h4⟩ := F
  exact d_make h2 h1 hr hg h3 h4 ha hl hdb he hpl
/-! ### comparisons as tests -/
variable {a b : Expr} {fa fb : EX} {j : Nat} {q : Pos}
theorem t_of {o : CmpOp} {r : R2} {op : D → D → Option D} (ho : OpR X (compareOp o) r) (hd : Op2 X.K W r op) (ha : PD X W a fa) (hb : PD X W b fb) (hm : behindInMarks o b = false) : PDT X W (.Compare a [o] [b] pos) (tB (e2 op fa fb)) := t_cmp ho hd ha hb hm
theorem q_lt {K : PySem.W.Frag} : Op2 K W (fun x y H Q => (rI0 fun i j => .bl (decide (i < j))) x y H Q ∨ (∃ i j, x = .str i ∧ y = .str j ∧ Q (.bl (decide (i.cps.toList < j.cps.toList))) H)) dLt := by
  intro fr F H σ ρ n x y d v u Q R dx dy h k
  unfold dLt at h
  split at h
  · cases dx; cases dy; cases h
    exact .inl ⟨_, _, rfl, rfl, k F H _ R (Sub.refl _) (.bl _)⟩
  · cases dx; cases dy; cases h
    exact .inr ⟨_, _, rfl, rfl, k F H _ R (Sub.refl _) (.bl _)⟩
  · cases h
theorem q_eq {K : PySem.W.Frag} : Op2 K W (rEqD K) dEq := by
  intro fr F H σ ρ n x y d v u Q R dx dy h k
  unfold dEq at h
  split at h
  · cases h
    obtain ⟨p, q, h1, h2, h3, h4, rfl⟩ := dEqB_ok ‹_›
    exact ⟨p, q, dp_of R.core.sub dx h1, dp_of R.core.sub dy h2, h3, h4, k F H _ R (Sub.refl _) (.bl _)⟩
  · cases h
theorem q_ne {K : PySem.W.Frag} : Op2 K W (rNeD K) dNe := by
  intro fr F H σ ρ n x y d v u Q R dx dy h k
  unfold dNe at h
  split at h
  · cases h
    obtain ⟨p, q, h1, h2, h3, h4, rfl⟩ := dEqB_ok ‹_›
    exact ⟨p, q, dp_of R.core.sub dx h1, dp_of R.core.sub dy h2, h3, h4, k F H _ R (Sub.refl _) (.bl _)⟩
  · cases h
theorem q_scrNil {K : PySem.W.Frag} : Op2 K W (rEqD K) (dScrNil W) := by
  intro fr F H σ ρ n x y d v u Q R dx dy h k
  unfold dScrNil at h
  split at h
  · cases h
    cases dx with
    | scr h1 =>
      cases dy with
      | lst h2 h3 =>
        cases h3
        refine ⟨.list (intsPy W.ns), .list [], .lst (R.core.sub.sqL h1) (dpAll_ints _), .lst (SqL.of (R.core.sub _ _ h2)) .nil, shaped_ints _, by decide, ?_⟩
        have : PyData.eqv (.list (intsPy W.ns)) (.list []) = W.ns.isEmpty := by
          unfold PyData.eqv
          cases e : W.ns with
          | nil => rfl
          | cons i r => rfl
        rw [this]
        exact k F H _ R (Sub.refl _) (.bl _)
  · cases h
theorem q_CI {K : PySem.W.Frag} (p : Int → Int → Bool) : Op2 K W (rI0 fun i j => .bl (p i j)) (dCI p) := q_I0 fun _ _ _ _ _ _ => .bl _
theorem t_lt (ha : PD X W a fa) (hb : PD X W b fb) : PDT X W (.Compare a [.Lt] [b] pos) (tB (e2 dLt fa fb)) := t_cmp (op_lt.or op_lt_str) q_lt ha hb (nomark _)
theorem t_le (ha : PD X W a fa) (hb : PD X W b fb) : PDT X W (.Compare a [.LtE] [b] pos) (tB (e2 dLe fa fb)) := t_cmp op_le (q_CI _) ha hb (nomark _)
theorem t_gt (ha : PD X W a fa) (hb : PD X W b fb) : PDT X W (.Compare a [.Gt] [b] pos) (tB (e2 dGt fa fb)) := t_cmp op_gt (q_CI _) ha hb (nomark _)
theorem t_ge (ha : PD X W a fa) (hb : PD X W b fb) : PDT X W (.Compare a [.GtE] [b] pos) (tB (e2 dGe fa fb)) := t_cmp op_ge (q_CI _) ha hb (nomark _)
theorem t_eq (hu : X.A.units + 64 < cLine) (ha : PD X W a fa) (hb : PD X W b fb) : PDT X W (.Compare a [.Eq] [b] pos) (tB (e2 dEq fa fb)) := t_cmp (op_eqD hu) q_eq ha hb (nomark _)
theorem t_ne (hu : X.A.units + 64 < cLine) (ha : PD X W a fa) (hb : PD X W b fb) : PDT X W (.Compare a [.NotEq] [b] pos) (tB (e2 dNe fa fb)) := t_cmp (op_neD hu) q_ne ha hb (nomark _)
theorem t_scrNil (hu : X.A.units + 64 < cLine) (ha : PD X W a fa) (hb : PD X W b fb) : PDT X W (.Compare a [.Eq] [b] pos) (tB (e2 (dScrNil W) fa fb)) := t_cmp (op_eqD hu) q_scrNil ha hb (nomark _)
theorem t_isN (ha : PD X W a fa) : PDT X W (.Compare a [.Is] [.Constant .none j q] pos) (tB (e1 (fun d => some (.bl (isNon d))) fa)) := imp_T (pt_cmp (pc_isN ha) rfl) fun σ H Q ⟨fr, F, ρ, n, r, n', R, e, k⟩ => by
  rcases r with z | b
  · refine R.dE (g := fun x => M.opt (some (D.bl (isNon x)))) ?_ k fun _ _ _ _ _ _ h _ _ _ => (M.opt_err h).elim
    rcases M.bind_err e with h | ⟨_, _, _, h⟩
    · exact h
    · exact (M.opt_err h).elim
  obtain ⟨x, n1, h1, h⟩ := M.bind_ok e
  obtain ⟨y, n2, h3, h4⟩ := M.bind_ok h1
  obtain ⟨h5, h6⟩ := M.opt_ok h4
  obtain ⟨h7, h8⟩ := M.opt_ok h
  subst h6
  cases h5
  cases h7
  subst h8
  exact ⟨fr, F, ρ, n, .ok y, _, R, h3, fun F1 H1 v R1 s1 d1 => ⟨_, rfl, by rw [isNon_of d1]; exact k F1 H1 R1 s1⟩⟩
theorem t_notN (ha : PD X W a fa) : PDT X W (.Compare a [.IsNot] [.Constant .none j q] pos) (tB (e1 (fun d => some (.bl (!isNon d))) fa)) := imp_T (pt_cmp (pc_notN ha) rfl) fun σ H Q ⟨fr, F, ρ, n, r, n', R, e, k⟩ => by
  rcases r with z | b
  · refine R.dE (g := fun x => M.opt (some (D.bl (!isNon x)))) ?_ k fun _ _ _ _ _ _ h _ _ _ => (M.opt_err h).elim
    rcases M.bind_err e with h | ⟨_, _, _, h⟩
    · exact h
    · exact (M.opt_err h).elim
  obtain ⟨x, n1, h1, h⟩ := M.bind_ok e
  obtain ⟨y, n2, h3, h4⟩ := M.bind_ok h1
  obtain ⟨h5, h6⟩ := M.opt_ok h4
  obtain ⟨h7, h8⟩ := M.opt_ok h
  subst h6
  cases h5
  cases h7
  subst h8
  exact ⟨fr, F, ρ, n, .ok y, _, R, h3, fun F1 H1 v R1 s1 d1 => ⟨_, rfl, by rw [isNon_of d1]; exact k F1 H1 R1 s1⟩⟩
end
end DL
end

section
set_option Elab.async false
set_option linter.all false
set_option autoImplicit false
set_option maxRecDepth 100000
namespace DL
open PySem PySem.Spec L2
/-! ### isinstance -/
def tyN : D → Option String
  | .non => some "NoneType"
  | .bl _ => some "bool"
  | .int _ => some "int"
  | .str _ => some "str"
  | .tup _ => some "tuple"
  | .lst _ => some "list"
  | .dic _ _ => some "dict"
  | _ => none
theorem ty_of {K : PySem.W.Frag} {W : Wd} {dr : Option Addr} {F H : Hp} (s : Sub F H) {v : V} {d : D} {T : String} (h : Den K W dr F v d) (e : tyN d = some T) : TyX K H v (.type T) := by
  cases h with
  | non => cases e; exact .base .non
  | bl b => cases e; exact .base (.bl b)
  | int b => cases e; exact .base (.int b)
  | str b => cases e; exact .base (.str b)
  | tup h1 h2 =>
    cases e
    rcases s.sqT h1 with h | ⟨o, its, n, hk, hc, _⟩
    · rcases h with h | ⟨o, h⟩
      · exact .base (.tup h)
      · exact .fTuple h
    · exact .kTuple hk hc
  | lst h1 h2 => cases e; exact .base (.lst (s _ _ h1))
  | scr h1 => cases e
  | dic h0 h1 h2 =>
    cases e
    rcases s.rd h1 with h | ⟨o, h⟩
    · exact .base (.dK h)
    · exact .fDict h
  | dit h0 h1 h2 => cases e
  | obj => cases e
  | drw => cases e
def dIsi (T : String) (d : D) : Option D := match tyN d with
  | some t => (match kitB t T with | some b => some (.bl b) | none => none)
  | none => none
section
variable {X : Cx} {W : Wd} {x : Str} {p tp pos : Pos} {e : Expr} {f : EX}
theorem d_isi {T : String} {Tn : Str} (hg : Gl X "isinstance") (hm : X.mg "isinstance" = none) (hgT : Gl X Tn) (hmT : X.mg Tn = none) (hvT : bootBuiltins Tn = some (.type T)) (ha : PD X W e f) (hn : Tn ≠ "__name__" := by decide) (hd : (Tn == ("__debug__" : Str)) = false := by decide)
    (he : starEach [e, .Name Tn tp] X.env = (false, eval e X.env) :: starEach [.Name Tn tp] X.env := by rfl) (he2 : starEach [.Name Tn tp] X.env = (false, eval (.Name Tn tp) X.env) :: starEach [] X.env := by rfl) (hpl : (backTo pos (starEach [.Name Tn tp] X.env)).any (·.1) = false := by rfl) :
    PD X W (.Call (.Name "isinstance" p) [e, .Name Tn tp] [] pos) (e1 (dIsi T) f) :=
  imp_E (pe_callB call_isi hg hm rfl (pa_cons ha (pa_cons (pe_bltn (v := .ty T) hgT hmT hvT rfl hn hd) pa_nil he2) he) (by decide) (by decide) he hpl) fun σ H Q ⟨fr, F, ρ, n, r, n', R, ev, k⟩ => by
    rcases r with z | d
    · exact R.dE1 ev k
    obtain ⟨y, n1, h1, h2⟩ := M.bind_ok ev
    obtain ⟨h3, h4⟩ := M.opt_ok h2
    subst h4
    unfold dIsi at h3
    split at h3
    · split at h3
      · cases h3
        exact ⟨fr, F, ρ, n, .ok y, _, R, h1, fun F1 H1 v R1 s1 d1 => ⟨v, .ty T, _, _, _, rfl, .ty T, ty_of R1.core.sub d1 ‹_›, kit_ty ‹_›, k F1 H1 _ R1 s1 (.bl _)⟩⟩
      · cases h3
    · cases h3
end
/-! ### a dict of the module with text keys -/
def flDB : D → Value → Bool
  | .non, .none => true
  | .bl a, .bool b => a == b
  | .int i, .int j _ => i == j
  | .str x, .str y _ => x == y
  | _, _ => false
def allDB : List D → List Value → Bool
  | [], [] => true
  | d :: ds, v :: vs => flDB d v && allDB ds vs
  | _, _ => false
def relDB (K : PySem.W.Frag) (d : D) (u : Value) : Bool := match d, u with
  | .tup ds, .ref a => (match K.lookup a with
    | some ⟨.type c, _, .seq its _, _⟩ => decide (c = "tuple") && (decide (its.size ≤ 1000) && allDB ds its.toList)
    | _ => false)
  | d, u => flDB d u
def tabDB (K : PySem.W.Frag) (a : Addr) (tbl : List (Str × D)) : Bool := tbl.all fun q => match PySem.W.nsIn K a q.1 with
  | some (some u) => relDB K q.2 u
  | _ => false
theorem flDB_ok {K : PySem.W.Frag} {W : Wd} {d : D} {u : Value} (h : flDB d u = true) : ∃ v, RelV v u ∧ ∀ dr F, Den K W dr F v d := by
  unfold flDB at h
  split at h
  · exact ⟨.non, rfl, fun _ _ => .non⟩
  · rw [eq_of_beq h]; exact ⟨.bl _, rfl, fun _ _ => .bl _⟩
  · rw [eq_of_beq h]; exact ⟨.int _, ⟨_, rfl⟩, fun _ _ => .int _⟩
  · rw [eq_of_beq h]; exact ⟨.str _, ⟨_, rfl⟩, fun _ _ => .str _⟩
  · cases h
theorem allDB_ok {K : PySem.W.Frag} {W : Wd} : ∀ {ds : List D} {us : List Value}, allDB ds us = true → ∃ vs, Vals vs us ∧ ∀ dr F, Dens K W dr F vs ds
  | [], [], _ => ⟨[], .nil, fun _ _ => .nil⟩
  | d :: ds, u :: us, h => by
    have h' : (flDB d u && allDB ds us) = true := h
    rw [Bool.and_eq_true] at h'
    obtain ⟨v, r, e⟩ := flDB_ok (K := K) (W := W) h'.1
    obtain ⟨vs, rs, es⟩ := allDB_ok (K := K) (W := W) h'.2
    exact ⟨v :: vs, .cons r rs, fun dr F => .cons (e dr F) (es dr F)⟩
  | [], _ :: _, h => by cases h
  | _ :: _, [], h => by cases h
theorem relDB_ok {K : PySem.W.Frag} {W : Wd} {d : D} {u : Value} (h : relDB K d u = true) : ∃ v, RelV v u ∧ ∀ dr F, Den K W dr F v d := by
  unfold relDB at h
  split at h
  · split at h
    · rename_i c od its n sl q
      rw [Bool.and_eq_true, Bool.and_eq_true] at h
      obtain ⟨h1, h2, h3⟩ := h
      have hc := of_decide_eq_true h1
      subst hc
      obtain ⟨vs, rs, es⟩ := allDB_ok (K := K) (W := W) h3
      exact ⟨.ref _, rfl, fun dr F => .tup (.inr ⟨_, its, n, q, rfl, rfl, by have := of_decide_eq_true h2; rw [sizeLine_eq]; omega, rs⟩) (es dr F)⟩
    · cases h
  · exact flDB_ok h
structure KTab (K : PySem.W.Frag) (w : World) (W : Wd) (a : Addr) (tbl : List (Str × D)) : Prop where
  kd : ∃ es n, KDict K w a es n
  yes : ∀ z x, tbl.lookup z = some x → ∃ u v, PySem.W.nsIn K a z = some (some u) ∧ RelV v u ∧ ∀ dr F, Den K W dr F v x
  no : ∀ z, tbl.lookup z = none → PySem.W.nsIn K a z = some none
theorem lk_mem {z : Str} {x : D} : ∀ {tbl : List (Str × D)}, tbl.lookup z = some x → (z, x) ∈ tbl
  | (k, y) :: r, h => by
    rw [List.lookup_cons] at h
    cases q : z == k with
    | true =>
      rw [q] at h
      injection h with h
      rw [← h, eq_of_beq q]
      exact List.mem_cons_self
    | false =>
      rw [q] at h
      exact List.mem_cons_of_mem _ (lk_mem h)
theorem lk_no {z : Str} : ∀ {tbl : List (Str × D)}, tbl.lookup z = none → ∀ k ∈ tbl.map (·.1), k ≠ z
  | [], _, _, h => by cases h
  | (k, y) :: r, h, k', hk => by
    rw [List.lookup_cons] at h
    cases q : z == k with
    | true => rw [q] at h; cases h
    | false =>
      rw [q] at h
      rcases List.mem_cons.mp hk with e | e
      · subst e
        intro e
        rw [e] at q
        simp at q
      · exact lk_no h k' e
theorem ktab_of {K : PySem.W.Frag} {w : World} {W : Wd} {a : Addr} {tbl : List (Str × D)} (h1 : He.dicW K a = some (He.keysIn w.params (tbl.map (·.1)))) (h2 : tabDB K a tbl = true) : KTab K w W a tbl := by
  refine ⟨He.dicW_ok h1, fun z x e => ?_, fun z e => ?_⟩
  · have h3 := List.all_eq_true.mp h2 _ (lk_mem e)
    cases q : PySem.W.nsIn K a z with
    | none => rw [q] at h3; cases h3
    | some r =>
      rw [q] at h3
      cases r with
      | none => cases h3
      | some u =>
        obtain ⟨v, r, hd⟩ := relDB_ok (W := W) h3
        exact ⟨u, v, rfl, r, hd⟩
  · obtain ⟨es, n, T⟩ := He.dicW_ok h1
    unfold He.dicW at h1
    rw [T.at_] at h1
    have hk : es.toList.map He.keyOf = He.keysIn w.params (tbl.map (·.1)) := by
      simp [T.low] at h1
      exact h1
    have key : ∀ en ∈ es.toList, ∃ k t, en.key = .str k t ∧ k ≠ z := fun en hen => by
      have : He.keyOf en ∈ He.keysIn w.params (tbl.map (·.1)) := by rw [← hk]; exact List.mem_map_of_mem hen
      unfold He.keysIn at this
      obtain ⟨k, hk1, hk2⟩ := List.mem_map.mp this
      unfold He.keyOf at hk2
      split at hk2
      · rename_i x t q
        injection hk2 with hk2
        injection hk2 with hk2 hk3
        exact ⟨x, t, q, by rw [← hk2]; exact lk_no e k hk1⟩
      · cases hk2
    unfold PySem.W.nsIn
    rw [T.at_]
    have f1 : es.toList.find? (·.key.isStr z) = none := List.find?_eq_none.mpr fun en hen => by
      obtain ⟨k, t, q, hne⟩ := key en hen
      rw [q]
      show ¬ ((k == z) = true)
      exact fun h => hne (eq_of_beq h)
    have f2 : es.toList.any (·.refKey) = false := List.any_eq_false.mpr fun en hen => by
      obtain ⟨k, t, q, hne⟩ := key en hen
      unfold DictEntry.refKey
      rw [q]
      simp
    show (match es.toList.find? (·.key.isStr z) with | some e => some (some e.val) | none => if es.toList.any (·.refKey) then none else some none) = some none
    rw [f1, f2]
    rfl
section
variable {X : Cx} {W : Wd} {x : Str} {p pos : Pos} {e : Expr} {f : EX} {a : Addr} {tbl : List (Str × D)}
def dInK (tbl : List (Str × D)) : D → Option D
  | .str z => some (.bl (tbl.lookup z).isSome)
  | _ => none
def dNiK (tbl : List (Str × D)) : D → Option D
  | .str z => some (.bl (!(tbl.lookup z).isSome))
  | _ => none
def dIxK (tbl : List (Str × D)) : D → Option D
  | .str z => tbl.lookup z
  | _ => none
theorem d_kd {r : R2} {op : D → Option D} {fe : EX} {tn : TE} (hn : tn = tC (.ref a)) (hd : ∀ (H : Hp) (v : V) (d y : D) (Q : VK) (fr : Fr) (F : Hp), Den X.K W fr.dr F v d → op d = some y → (∀ w, (∀ dr F, Den X.K W dr F w y) → Q w H) → r v (.ref a) H Q) {σ : St} {H : Hp} {Q : VK} (h : tD X W (e1 op fe) σ H Q) : tOp r (tD X W fe) tn σ H Q := by
  subst hn
  obtain ⟨fr, F, ρ, n, r, n', R, e, k⟩ := h
  rcases r with z | d
  · exact R.dE1 e k
  obtain ⟨y, n1, h1, h2⟩ := M.bind_ok e
  obtain ⟨h3, h4⟩ := M.opt_ok h2
  subst h4
  exact ⟨fr, F, ρ, n, .ok y, _, R, h1, fun F1 H1 v R1 s1 d1 => hd H1 v y d Q fr F1 d1 h3 fun w hw => k F1 H1 w R1 s1 (hw _ _)⟩
theorem d_inK (T : KTab X.K X.w W a tbl) (hg : Gl X x) (hm : X.mg x = some (.ref a)) (he : PD X W e f) (hd : (x == ("__debug__" : Str)) = false := by decide) (hb : behindInMarks .In (.Name x p) = false := by rfl) : PD X W (.Compare e [.In] [.Name x p] pos) (e1 (dInK tbl) f) := by
  obtain ⟨es, n, D⟩ := T.kd
  refine imp_E (pe_cmpR (op_in_kd D) he (pe_glob (v := .ref a) hg hm rfl hd) hb) fun σ H Q h => d_kd rfl (fun H v d y Q fr F dv ey k => ?_) h
  unfold dInK at ey
  split at ey
  · rename_i z
    cases dv; cases ey
    cases q : tbl.lookup z with
    | none => exact ⟨z, none, rfl, rfl, T.no z q, k _ fun _ _ => by rw [q]; exact .bl _⟩
    | some y =>
      obtain ⟨u, v, h1, h2, h3⟩ := T.yes z y q
      exact ⟨z, some u, rfl, rfl, h1, k _ fun _ _ => by rw [q]; exact .bl _⟩
  · cases ey
theorem d_niK (T : KTab X.K X.w W a tbl) (hg : Gl X x) (hm : X.mg x = some (.ref a)) (he : PD X W e f) (hd : (x == ("__debug__" : Str)) = false := by decide) (hb : behindInMarks .NotIn (.Name x p) = false := by rfl) : PD X W (.Compare e [.NotIn] [.Name x p] pos) (e1 (dNiK tbl) f) := by
  obtain ⟨es, n, D⟩ := T.kd
  refine imp_E (pe_cmpR (op_notIn_kd D) he (pe_glob (v := .ref a) hg hm rfl hd) hb) fun σ H Q h => d_kd rfl (fun H v d y Q fr F dv ey k => ?_) h
  unfold dNiK at ey
  split at ey
  · rename_i z
    cases dv; cases ey
    cases q : tbl.lookup z with
    | none => exact ⟨z, none, rfl, rfl, T.no z q, k _ fun _ _ => by rw [q]; exact .bl _⟩
    | some y =>
      obtain ⟨u, v, h1, h2, h3⟩ := T.yes z y q
      exact ⟨z, some u, rfl, rfl, h1, k _ fun _ _ => by rw [q]; exact .bl _⟩
  · cases ey
theorem d_ixK (T : KTab X.K X.w W a tbl) (hg : Gl X x) (hm : X.mg x = some (.ref a)) (he : PD X W e f) (hd : (x == ("__debug__" : Str)) = false := by decide) (hs : PlainIx e := by exact fun _ _ => rfl) : PD X W (.Subscript (.Name x p) e pos) (e1 (dIxK tbl) f) := by
  refine imp_E (pe_ix ix_kdict (pe_glob (v := .ref a) hg hm rfl hd) he hs) fun σ H Q h => ?_
  obtain ⟨fr, F, ρ, n, r, n', R, e, k⟩ := h
  rcases r with z | d
  · exact R.dE1 e k
  obtain ⟨y, n1, h1, h2⟩ := M.bind_ok e
  obtain ⟨h3, h4⟩ := M.opt_ok h2
  subst h4
  refine ⟨fr, F, ρ, n, .ok y, _, R, h1, fun F1 H1 v R1 s1 d1 => ?_⟩
  unfold dIxK at h3
  split at h3
  · cases d1
    obtain ⟨es, m, D⟩ := T.kd
    obtain ⟨u, v, g1, g2, g3⟩ := T.yes _ _ h3
    exact ⟨a, _, v, rfl, rfl, ⟨es, m, u, D.at_, D.lit, g1, g2⟩, k F1 H1 v R1 s1 (g3 _ _)⟩
  · cases h3
end
end DL
end

section
set_option Elab.async false
set_option linter.all false
set_option autoImplicit false
set_option maxRecDepth 100000
namespace DL
open PySem PySem.Spec L2 PyProof.Rows
section
variable {prog : Program} {w : World} {A : Around} {E : Value → Shared → Prop} {s : Shared}
theorem sliceApplied_rev {sl : Addr} {vs : Value} {n : Nat} {Q : Int × Int × Nat → Shared → Prop} (hs : s.heap.IsSliceOf sl .none .none vs) (ps : IsPart vs (some (-1)))
    (h : Q (((n : Int) - 1), -1, n) s) : wpAny (model prog w) A (Builtin.Slice.sliceApplied (.ref sl) (pure (n : Int))) Q E s := by
  obtain ⟨os, hos, hcs, hds⟩ := id hs
  unfold Builtin.Slice.sliceApplied Builtin.Slice.sliceFields
  refine wpAny_bind (wpAny_bind (wpAny_field hos hds (x := .none) rfl (wpAny_bind (wpAny_field hos hds (x := .none) rfl (wpAny_bind (wpAny_field hos hds (x := vs) rfl (wpAny_pure ?_)))))))
  refine wpAny_bind (HT.slicePart_ ps ?_)
  show wpAny _ _ (if ((-1 : Int) == 0) = true then _ else _) _ _ s
  rw [if_neg (by decide)]
  refine wpAny_bind (HT.slicePart_ .none (wpAny_bind (HT.slicePart_ .none (wpAny_bind (wpAny_pure ?_)))))
  show wpAny _ _ (pure ((n : Int) - 1, (-1 : Int), Builtin.Slice.slicePlaces ((n : Int) - 1) (-1) (-1))) _ _ s
  have e : Builtin.Slice.slicePlaces ((n : Int) - 1) (-1) (-1) = n := by
    unfold Builtin.Slice.slicePlaces
    rw [if_neg (by omega), show (-(-1 : Int)) = 1 from rfl, Int.ediv_one]
    split <;> omega
  rw [e]
  exact wpAny_pure h
theorem pick_rev (xs : Array Value) : ((List.range xs.size).filterMap fun (m : Nat) => xs[(((xs.size : Int) - 1) + (m : Int) * (-1)).toNat]?).toArray = xs.toList.reverse.toArray := by
  have e : (fun (m : Nat) => xs[(((xs.size : Int) - 1) + (m : Int) * (-1)).toNat]?) = (fun k => xs[k]?) ∘ fun m => xs.size - 1 - m := by
    funext m
    have : (((xs.size : Int) - 1) + (m : Int) * (-1)).toNat = xs.size - 1 - m := by omega
    rw [this]
    rfl
  rw [e, ← List.filterMap_map, PySem.W.krv_range, List.filterMap_reverse, PySem.W.krv_all]
theorem getItem_tuple_rev {t sl : Addr} {items : Array Value} {vs : Value} {Q : Value → Shared → Prop} (ht : IsTup s.heap t items) (hs : s.heap.IsSliceOf sl .none .none vs) (ps : IsPart vs (some (-1)))
    (h : Q (.ref s.heap.objs.size) { s with heap := s.heap.push { cls := .type "tuple", data := .seq items.toList.reverse.toArray } })
    (hsz : items.size ≤ sizeLine) : wpAny (model prog w) A (getItem (.ref t) (.ref sl)) Q E s := by
  have htake : sizeOk (.seq items.toList.reverse.toArray) := by
    show items.toList.reverse.toArray.size ≤ sizeLine
    rw [List.size_toArray, List.length_reverse, Array.length_toList]
    exact hsz
  obtain ⟨os, hos, hcs, hds⟩ := id hs
  have hTs : s.TypeIs (.ref sl) "slice" := ⟨os, hos, hcs⟩
  unfold getItem
  try with_reducible refine wpAny_holding ?_
  first | refine wpAny_bind (wpAny_pure ?_) | skip
  refine wpAny_bind (wpAny_sequenceKey ht.typeIs (by decide) ?_)
  refine wpAny_bind (wpAny_callSpecial?_slot (name := Str.ofString "__getitem__") ht.typeIs PyProof.Rows.slot_tuple_getitem
    (wpAny_call_entry PyProof.Rows.slot_tuple_getitem ht.typeIs entry_tuple_getitem ?_ (args_tuple_getitem _ _)))
  show wpAny _ _ (Builtin.Tuple.tupleItemsOf (.ref t) >>= _) _ _ s
  refine wpAny_bind (tupleItemsOf_ ht ?_)
  refine wpAny_bind (wpAny_typeOf hTs ?_)
  rw [if_pos (by decide)]
  refine wpAny_bind (sliceApplied_rev hs ps ?_)
  have hno : ¬ ((((items.size : Int) - 1) == 0 && (-1 : Int) == 1 && items.size == items.size) = true) := by
    intro q
    rw [Bool.and_eq_true, Bool.and_eq_true] at q
    exact absurd q.1.2 (by decide)
  show wpAny _ _ (if (((items.size : Int) - 1) == 0 && (-1 : Int) == 1 && items.size == items.size) = true then _ else _) _ _ s
  rw [if_neg hno, pick_rev]
  first
    | exact wpAny_bind (m := Builtin.Tuple.tupleExact _) (wpAny_newObj_type (wpAny_pure ⟨_, rfl, wpAny_pure h⟩) htake)
    | exact wpAny_bind (m := Builtin.Tuple.tupleExact _) (wpAny_newObj_type (wpAny_bind (wpAny_pure (wpAny_pure ⟨_, rfl, wpAny_pure h⟩))) htake)
    | exact wpAny_bind (wpAny_bind (m := Builtin.Tuple.tupleExact _) (wpAny_newObj_type (wpAny_pure (wpAny_pure ⟨_, rfl, wpAny_pure h⟩)) htake))
    | exact wpAny_bind (wpAny_bind (m := Builtin.Tuple.tupleExact _) (wpAny_newObj_type (wpAny_pure ⟨_, rfl, wpAny_pure h⟩) htake))
end
section
variable {X : Cx} {W : Wd}
def tRevQ (K : PySem.W.Frag) (te : TE) : TE := fun σ H Q => te σ H fun x H1 => ∃ a xs, x = .ref a ∧ ((SqL K H1 a xs ∧ ∀ p, H1 p = none → Q (.ref p) (upd H1 p (.lst xs.reverse))) ∨ (SqT K H1 a xs ∧ ∀ p, H1 p = none → Q (.ref p) (upd H1 p (.tup xs.reverse))))
theorem pe_revQ {e : Expr} {te : TE} {k : Nat} {p1 p2 p3 pos : Pos} (he : PE X e te) : PE X (.Subscript e (.Slice none none (some (.UnaryOp .USub (.Constant (.int 1) k p1) p2)) p3) pos) (tRevQ X.K te) := by
  refine ⟨fun pins s σ H Q I h => ?_⟩
  refine Subscript_ (thn (he.run pins s σ H _ I h) fun v s1 ⟨x, H1, I1, r1, q1⟩ => ?_)
  obtain ⟨a, xs, ex, hq⟩ := q1
  subst ex
  cases r1
  have hst : PO X (some (.UnaryOp .USub (.Constant (.int 1) k p1) p2)) (tPart (tUn (rU fun i => .int (-i)) (tC (.int 1)))) := po_some (pe_un un_neg pe_int)
  refine wpAny_Slice (thn (po_none.run pins s1 σ H1 (fun o H2 => o = none ∧ H2 = H1) I1 ⟨rfl, rfl⟩) fun vl s2 ⟨l, H2, I2, pl, el, e2⟩ => ?_)
  subst el e2
  refine thn (po_none.run pins s2 σ H2 (fun o H3 => o = none ∧ H3 = H2) I2 ⟨rfl, rfl⟩) fun vu s3 ⟨u, H3, I3, pu, eu, e3⟩ => ?_
  subst eu e3
  refine thn (hst.run pins s3 σ H3 (fun o H4 => o = some (-1) ∧ H4 = H3) I3 ⟨1, rfl, -1, rfl, rfl, rfl⟩) fun vs s4 ⟨o, H4, I4, ps, eo, e4⟩ => ?_
  subst eo e4
  have I5 : Inv X pins σ H4 { s4 with heap := s4.heap.push { cls := .type "slice", data := .fields #[vl, vu, vs] } } := I4.kept (t' := s4.toks) fun b ob q => Heap.get?_push_of_some _ q
  show wpAny (model X.prog X.w) X.A (subscriptTail e (.Slice none none (some (.UnaryOp .USub (.Constant (.int 1) k p1) p2)) p3) (.ref a) (.ref s4.heap.objs.size)) (EP X pins σ Q) X.xe { s4 with heap := s4.heap.push { cls := .type "slice", data := .fields #[vl, vu, vs] } }
  rcases hq with ⟨hx, q⟩ | ⟨hx, q⟩
  · obtain ⟨its, r, ht, hz⟩ := I5.list hx
    have hlen := r.length
    refine tail_any (ops := [.ref a, .ref s4.heap.objs.size]) ht.isList.typeIs (PySem.slot_list_getitem.lookup) ?_ (by with_unfolding_all rfl)
    refine wpAny_getItem_list_slice ht.isList (Heap.IsSliceOf.new _ vl vu vs) pl pu ps (by decide) ?_ (by rw [List.size_toArray]; omega)
    rw [PySem.W.krv_pick]
    refine ⟨.ref _, _, I5.laid (t' := s4.toks) (o := .lst xs.reverse) (fun b ob q => Heap.get?_push_of_some _ q) (Nat.le_refl _) ?_, rfl, q _ (I5.hok.fresh (Nat.le_refl _))⟩
    exact ⟨by rw [List.length_reverse]; exact hz, _, 0, r.reverse, Heap.get?_push_size _ rfl⟩
  · obtain ⟨its, r, ht, hz⟩ := I5.tuple hx
    have hlen := r.length
    cases pl
    cases pu
    refine tail_any (ops := [.ref a, .ref s4.heap.objs.size]) ht.typeIs (PyProof.Rows.slot_tuple_getitem.lookup) ?_ (by with_unfolding_all rfl)
    refine getItem_tuple_rev ht (Heap.IsSliceOf.new _ .none .none vs) ps ?_ (by rw [List.size_toArray]; omega)
    refine ⟨.ref _, _, I5.laid (t' := s4.toks) (o := .tup xs.reverse) (fun b ob q => Heap.get?_push_of_some _ q) (Nat.le_refl _) ?_, rfl, q _ (I5.hok.fresh (Nat.le_refl _))⟩
    exact ⟨by rw [List.length_reverse]; exact hz, _, r.reverse, IsTup.new _ _⟩
def dRev : D → Option D
  | .tup xs => some (.tup xs.reverse)
  | .lst xs => some (.lst xs.reverse)
  | _ => none
theorem Dens.rev {K : PySem.W.Frag} {W : Wd} {dr : Option Addr} {F : Hp} : ∀ {vs : List V} {ds : List D}, Dens K W dr F vs ds → Dens K W dr F vs.reverse ds.reverse
  | _, _, .nil => .nil
  | _, _, .cons h1 h2 => by
    rw [List.reverse_cons, List.reverse_cons]
    exact Dens.append (Dens.rev h2) (.cons h1 .nil)
theorem d_rev {e : Expr} {f : EX} {k : Nat} {p1 p2 p3 pos : Pos} (he : PD X W e f) : PD X W (.Subscript e (.Slice none none (some (.UnaryOp .USub (.Constant (.int 1) k p1) p2)) p3) pos) (e1 dRev f) := imp_E (pe_revQ he) fun σ H Q ⟨fr, F, ρ, n, r, n', R, ev, k⟩ => by
  rcases r with z | d
  · exact R.dE1 ev k
  obtain ⟨y, n1, h1, h2⟩ := M.bind_ok ev
  obtain ⟨h3, h4⟩ := M.opt_ok h2
  subst h4
  refine ⟨fr, F, ρ, n, .ok y, _, R, h1, fun F1 H1 v R1 s1 d1 => ?_⟩
  unfold dRev at h3
  split at h3
  · cases h3
    cases d1 with
    | tup g1 g2 => exact ⟨_, _, rfl, .inr ⟨R1.core.sub.sqT g1, put_tup R1 g2.rev fun F' H' v R' s' d' => k F' H' v R' (s1.trans s') d'⟩⟩
  · cases h3
    cases d1 with
    | lst g1 g2 => exact ⟨_, _, rfl, .inl ⟨SqL.of (R1.core.sub _ _ g1), put_lst R1 g2.rev fun F' H' v R' s' d' => k F' H' v R' (s1.trans s') d'⟩⟩
  · cases h3
end
end DL
end

section
set_option Elab.async false
set_option linter.all false
set_option autoImplicit false
set_option maxRecDepth 100000
namespace DL
open PySem PySem.Spec L2 PyProof.Rows
/-! ### reading a dict -/
def keyD : D → Option Key
  | .int i => some (.inl i)
  | .str x => some (.inr x)
  | _ => none
theorem key_of {K : PySem.W.Frag} {W : Wd} {dr : Option Addr} {F : Hp} {v : V} {d : D} {k : Key} (h : Den K W dr F v d) (e : keyD d = some k) : v = kV k := by
  unfold keyD at e
  split at e
  · cases e; cases h; rfl
  · cases e; cases h; rfl
  · cases e
section
variable {κ : Type} [DecidableEq κ]
def valD : List κ → List D → κ → Option D
  | x :: xs, d :: ds, k => if x = k then some d else valD xs ds k
  | _, _, _ => none
theorem val_zip {K : PySem.W.Frag} {W : Wd} {dr : Option Addr} {F : Hp} {k : κ} {d : D} : ∀ {ks : List κ} {us : List V} {ds : List D}, ks.length = us.length → Dens K W dr F us ds → valD ks ds k = some d → ∃ v, valV (ks.zip us) k = some v ∧ Den K W dr F v d
  | [], _, _, _, _, h => by cases h
  | x :: xs, [], _, l, _, h => by cases l
  | x :: xs, u :: us, _, l, .cons h1 h2, h => by
    unfold valD at h
    split at h
    · rename_i q
      cases h
      exact ⟨u, by rw [List.zip_cons_cons]; exact valV_pos q, h1⟩
    · rename_i q
      obtain ⟨v, e1, e2⟩ := val_zip (ks := xs) (by simpa using l) h2 h
      exact ⟨v, by rw [List.zip_cons_cons, valV_neg q]; exact e1, e2⟩
def dkKs (ks : List κ) (k : κ) : List κ := if (ks.any fun x => decide (x = k)) = true then ks else ks ++ [k]
def dkDs {α : Type} (ks : List κ) (ds : List α) (k : κ) (d : α) : List α := if (ks.any fun x => decide (x = k)) = true then List.zipWith (fun x e => if x = k then d else e) ks ds else ds ++ [d]
theorem any_zip {k : κ} : ∀ {ks : List κ} {us : List V}, ks.length = us.length → ((ks.zip us).any fun kv => decide (kv.1 = k)) = ks.any fun x => decide (x = k)
  | [], _, _ => by simp
  | x :: xs, [], l => by cases l
  | x :: xs, u :: us, l => by
    rw [List.zip_cons_cons, List.any_cons, List.any_cons, any_zip (ks := xs) (by simpa using l)]
theorem map_zip {k : κ} {v : V} : ∀ {ks : List κ} {us : List V}, ks.length = us.length → (ks.zip us).map (fun kv => if kv.1 = k then (kv.1, v) else kv) = ks.zip (List.zipWith (fun x e => if x = k then v else e) ks us)
  | [], _, _ => by simp
  | x :: xs, [], l => by cases l
  | x :: xs, u :: us, l => by
    rw [List.zip_cons_cons, List.map_cons, List.zipWith_cons_cons, List.zip_cons_cons, map_zip (ks := xs) (by simpa using l)]
    split <;> rfl
theorem put_zip {k : κ} {v : V} {ks : List κ} {us : List V} (l : ks.length = us.length) : putK (ks.zip us) k v = (dkKs ks k).zip (dkDs ks us k v) := by
  unfold putK dkKs dkDs
  rw [any_zip l]
  split
  · exact map_zip l
  · rw [List.zip_append l]; rfl
theorem put_len {α : Type} {k : κ} {v : α} {ks : List κ} {us : List α} (l : ks.length = us.length) : (dkKs ks k).length = (dkDs ks us k v).length := by
  unfold dkKs dkDs
  split
  · simp [l]
  · simp [l]
theorem put_dens {K : PySem.W.Frag} {W : Wd} {dr : Option Addr} {F : Hp} {k : κ} {v : V} {d : D} (hv : Den K W dr F v d) : ∀ {ks : List κ} {us : List V} {ds : List D}, Dens K W dr F us ds → Dens K W dr F (List.zipWith (fun x e => if x = k then v else e) ks us) (List.zipWith (fun x e => if x = k then d else e) ks ds)
  | [], _, _, _ => by simp; exact .nil
  | x :: xs, _, _, .nil => by simp; exact .nil
  | x :: xs, _, _, .cons h1 h2 => by
    rw [List.zipWith_cons_cons, List.zipWith_cons_cons]
    refine .cons ?_ (put_dens hv h2)
    split
    · exact hv
    · exact h1
theorem dkDs_dens {K : PySem.W.Frag} {W : Wd} {dr : Option Addr} {F : Hp} {k : κ} {v : V} {d : D} {ks : List κ} {us : List V} {ds : List D} (hv : Den K W dr F v d) (h : Dens K W dr F us ds) : Dens K W dr F (dkDs ks us k v) (dkDs ks ds k d) := by
  unfold dkDs
  split
  · exact put_dens hv h
  · exact h.append (.cons hv .nil)
end
def dIxA (x y : D) : Option D := match x with
  | .dic ks ds => (match keyD y with | some k => valD ks ds k | none => none)
  | _ => dIx x y
section
variable {X : Cx} {W : Wd} {a b : Expr} {fa fb : EX} {pos : Pos}
def rIxDG : R2 := fun x y H Q => ∃ a v, x = .ref a ∧ DGet H a y (some v) ∧ Q v H
theorem ix_dict (hu : X.A.units + 1 < cLine) : IxR X rIxDG := by
  intro value slice pins s σ H x y v u Q I rx ry h hs
  obtain ⟨a, w, rfl, g, q⟩ := h
  cases rx
  exact tail_any (dict_typeIs I g) PySem.F.slot_dict_getitem.lookup (d_getItem hu I g ry fun w' s3 I3 rw' => ⟨w, H, I3, rw', q⟩) hs
theorem q_ixA {K : PySem.W.Frag} : Op2 K W (fun x y H Q => rIx K x y H Q ∨ rIxDG x y H Q) dIxA := by
  intro fr F H σ ρ n x y d v u Q R dx dy h k
  unfold dIxA at h
  split at h
  · rename_i ks ds
    cases q : keyD y with
    | none => rw [q] at h; cases h
    | some key =>
      rw [q] at h
      have hk := key_of dy q
      subst hk
      cases dx with
      | dic l h1 h2 =>
        obtain ⟨w, e1, e2⟩ := val_zip l h2 h
        exact .inr ⟨_, w, rfl, .inl ⟨_, key, R.core.sub.rd h1, rfl, e1.symm⟩, k F H w R (Sub.refl _) e2⟩
  · exact .inl (q_ix fr F H σ ρ n x y d v u Q R dx dy h k)
theorem d_ixA (hu : X.A.units + 64 < cLine) (ha : PD X W a fa) (hb : PD X W b fb) (hs : PlainIx b := by exact fun _ _ => rfl) : PD X W (.Subscript a b pos) (e2 dIxA fa fb) :=
  imp_E (pe_ix (ix_seq.or (ix_dict (by omega))) ha hb hs) fun _ _ _ h => d_tOp q_ixA h
/-! ### a store in an own dict -/
def dPut (kd : D × D) : D → Option D
  | .dic ks ds => (match keyD kd.1 with
    | some k => if ks.length < sizeLine then some (.dic (dkKs ks k) (dkDs ks ds k kd.2)) else none
    | none => none)
  | _ => none
def sPut (i : Nat) (fk fv : EX) : SX := fun ρ => M.bind (fv ρ) fun d => M.bind (M.opt (own? ρ i)) fun _ => M.bind (fk ρ) fun k => M.bind (M.opt ((own? ρ i).bind (dPut (k, d)))) fun o => M.pure (.nx (ρ.set i (.own o)))
theorem S_dput {i : Nat} {o ie value : Expr} {fk fv : EX} {p2 : Pos} (hu : X.A.units + 64 < cLine) (ho : PE X o (tVar i)) (hk : PD X W ie fk) (hv : PD X W value fv) (hs : swapsWith value (some (.Subscript o ie p2)) pos.line X.env = pure false := by rfl) :
    PDS X W (.Assign [.Subscript o ie p2] value pos) (sPut i fk fv) := imp_S (ps_dput (by omega) ho hk hv hs) fun E σ H ⟨fr, F, ρ, n, r, n', R, e, k⟩ => by
  rcases M.bind_any e with ⟨z, e1, rfl⟩ | ⟨d, n1, e1, h0⟩
  · exact ⟨fr, F, ρ, n, .error z, n', R, e1, KS.x k⟩
  rcases M.bind_any h0 with ⟨z, e1, rfl⟩ | ⟨od0, n1', e0, h1⟩
  · exact (M.opt_err e1).elim
  obtain ⟨q0, q1⟩ := M.opt_ok e0
  subst q1
  rcases r with z | o
  · refine ⟨fr, F, ρ, n, .ok d, _, R, e1, fun F1 H1 v R1 s1 d1 => ?_⟩
    obtain ⟨ad0, s0⟩ := R1.slots
    obtain ⟨z1, _⟩ := s0.own i _ (own_some q0)
    refine ⟨_, z1, R1.dE h1 (KX.mono (KS.x k) s1) fun _ _ _ _ _ _ h _ _ _ => ?_⟩
    rcases M.bind_err h with h | ⟨_, _, _, h⟩
    · exact (M.opt_err h).elim
    · exact (M.pure_err h).elim
  clear e h0 e0
  obtain ⟨kd, n2, e2, h2⟩ := M.bind_ok h1
  obtain ⟨dd, n3, e3, h3⟩ := M.bind_ok h2
  obtain ⟨e4, e5⟩ := M.opt_ok e3
  obtain ⟨e6, e7⟩ := M.pure_ok h3
  subst e5 e6 e7
  cases q : own? ρ i with
  | none => rw [q] at e4; cases e4
  | some od =>
    rw [q] at e4
    have e4 : dPut (kd, d) od = some dd := e4
    have hi := own_some q
    unfold dPut at e4
    split at e4
    · rename_i dd0 ks ds ehi
      cases qk : keyD kd with
      | none => rw [qk] at e4; cases e4
      | some key =>
        rw [qk] at e4
        have e4 : (if ks.length < sizeLine then some (D.dic (dkKs ks key) (dkDs ks ds key d)) else none) = some dd := e4
        split at e4
        · rename_i hl
          cases e4
          refine ⟨fr, F, ρ, n, .ok d, _, R, e1, fun F1 H1 v R1 s1 d1 => ?_⟩
          obtain ⟨ad0, s0⟩ := R1.slots
          obtain ⟨z1, _⟩ := s0.own i _ hi
          refine ⟨_, z1, fr, F1, ρ, _, .ok kd, _, R1, e2, fun F2 H2 u R2 s2 d2 => ?_⟩
          obtain ⟨ad, s⟩ := R2.slots
          obtain ⟨a1, a2, a3, a4, ⟨us, a5, a6, a7⟩, a8⟩ := s.own i _ hi
          have ea : ad i = ad0 i := by rw [a1] at z1; injection z1 with z1; injection z1 with z1; injection z1
          have hu := key_of d2 qk
          subst hu
          have d1' := d1.mono s2 fun _ z => z
          refine ⟨ad i, _, by rw [ea], .inl ⟨_, key, a6, rfl, by rw [List.length_zip, a5, Nat.min_self, ← a5]; exact hl, rfl⟩, ?_⟩
          rw [put_zip a5]
          exact k F2 _ _ (R2.change s hi ⟨_, put_len a5, upd_same, dkDs_dens d1' a7⟩ rfl) (s1.trans s2)
        · cases e4
    · cases e4
end
end DL
end

section
set_option Elab.async false
set_option linter.all false
set_option autoImplicit false
set_option maxRecDepth 100000
namespace DL
open PySem PySem.Spec L2 PyProof.Rows
section
variable {X : Cx} {W : Wd} {a b e : Expr} {fa fb f : EX} {pos : Pos}
/-! ### list(d) -/
def rListR : List V → Hp → VK → Prop := fun xs H Q => ∃ p kvs, xs = [.ref p] ∧ Rd H p (.dK kvs) ∧ ∀ q, H q = none → Q (.ref q) (upd H q (.lst (kvs.map fun kv => kV kv.1)))
theorem call_list_dR (hc : X.calm = true) : CallR X (.type "list") rListR := by
  intro pins s σ H xs us Q I r h
  obtain ⟨p, kvs, e, hk, q⟩ := h
  subst e
  obtain ⟨u, eu, rx⟩ := vals1 r
  subst eu
  obtain rfl : u = Value.ref p := rx
  obtain ⟨z, lo, vs, rk, hd⟩ := dk_rd I.hok hk
  obtain ⟨ep, hat⟩ := hd.dictAt
  have hl : kvs.length = vs.length := Paired.length rk
  refine PySem.W.kdl_call (PySem.W.kdl_dict (knd := mixKind X.prog X.w) (kvs := vs) (ep := ep) lo) (I.ok.hd hc) hat (by rw [← hl]; exact z) fun h' tk acc' c' hkeep hS hacc => ?_
  refine ⟨.ref s.heap.objs.size, upd H s.heap.objs.size (.lst (kvs.map fun kv => kV kv.1)), I.laid hkeep (Nat.le_refl _) (show ObjOk X.prog X.w _ _ _ (.lst (kvs.map fun kv => kV kv.1)) from ⟨?_, acc'.toList, c', ?_, ?_⟩), rfl, q _ (I.hok.fresh (Nat.le_refl _))⟩
  · rw [List.length_map]; exact z
  · have el : acc'.toList.length = acc'.size := by simp
    refine vals_of_at (by rw [List.length_map, el, hacc.1, hl]) fun j x w h1 h2 => ?_
    obtain ⟨k, y, hky, hi⟩ := hacc.2 j w (by rw [← Array.getElem?_toList]; exact h2)
    have e1 : (kvs.map (·.1))[j]? = some k := by
      rw [KV.keys rk, List.getElem?_map, hky] <;> rfl
    have e2 : (kvs.map fun kv => kV kv.1)[j]? = some (kV k) := by
      have e3 : (kvs.map fun kv => kV kv.1) = (kvs.map (·.1)).map kV := by rw [List.map_map] <;> rfl
      rw [e3, List.getElem?_map, e1] <;> rfl
    rw [e2] at h1
    cases h1
    exact keyIs_rel hi
  · rw [Array.toArray_toList]; exact hS
def kD : Key → D
  | .inl i => .int i
  | .inr x => .str x
def dLstA : List D → Option D
  | [.dic ks _] => some (.lst (ks.map kD))
  | xs => dLstOf xs
theorem dens_keys {K : PySem.W.Frag} {dr : Option Addr} {F : Hp} : ∀ {ks : List Key} {us : List V}, ks.length = us.length → Dens K W dr F ((ks.zip us).map fun kv => kV kv.1) (ks.map kD)
  | [], _, _ => by simp; exact .nil
  | k :: ks, [], l => by cases l
  | k :: ks, u :: us, l => by
    rw [List.zip_cons_cons, List.map_cons, List.map_cons]
    refine .cons ?_ (dens_keys (by simpa using l))
    cases k with
    | inl i => exact .int i
    | inr x => exact .str x
theorem q_lstA {K : PySem.W.Frag} : CallD K W (fun xs H Q => (∃ p ys, xs = [.ref p] ∧ (SqL K H p ys ∨ SqT K H p ys) ∧ ∀ l, H l = none → Q (.ref l) (upd H l (.lst ys))) ∨ rListR xs H Q) dLstA := by
  intro fr F H σ ρ n xs d vs Q R dx h k
  unfold dLstA at h
  split at h
  · cases h
    cases dx with
    | cons h1 h2 =>
      cases h2
      cases h1 with
      | dic l h3 h4 => exact .inr ⟨_, _, rfl, R.core.sub.rd h3, put_lst R (dens_keys l) k⟩
  · exact .inl (q_lstOf fr F H σ ρ n xs d vs Q R dx h k)
theorem call_listA (hc : X.calm = true) : CallR X (.type "list") (fun xs H Q => (∃ p ys, xs = [.ref p] ∧ (SqL X.K H p ys ∨ SqT X.K H p ys) ∧ ∀ l, H l = none → Q (.ref l) (upd H l (.lst ys))) ∨ rListR xs H Q) := call_list_of.or (call_list_dR hc)
/-! ### texts in order -/
def dCA (p : Int → Int → Bool) (q : Str → Str → Bool) : D → D → Option D
  | .int i, .int j => some (.bl (p i j))
  | .str i, .str j => some (.bl (q i j))
  | _, _ => none
def dLeA : D → D → Option D := dCA (fun i j => decide (i ≤ j)) fun i j => !decide (j.cps.toList < i.cps.toList)
def rCA (p : Int → Int → Bool) (q : Str → Str → Bool) : R2 := fun x y H Q => rI0 (fun i j => .bl (p i j)) x y H Q ∨ ∃ i j, x = .str i ∧ y = .str j ∧ Q (.bl (q i j)) H
theorem q_CA {K : PySem.W.Frag} (p : Int → Int → Bool) (q : Str → Str → Bool) : Op2 K W (rCA p q) (dCA p q) := by
  intro fr F H σ ρ n x y d v u Q R dx dy h k
  unfold dCA at h
  split at h
  · cases dx; cases dy; cases h
    exact .inl ⟨_, _, rfl, rfl, k F H _ R (Sub.refl _) (.bl _)⟩
  · cases dx; cases dy; cases h
    exact .inr ⟨_, _, rfl, rfl, k F H _ R (Sub.refl _) (.bl _)⟩
  · cases h
theorem d_leA (ha : PD X W a fa) (hb : PD X W b fb) : PD X W (.Compare a [.LtE] [b] pos) (e2 dLeA fa fb) := d_cmp (op_le.or op_le_str) (q_CA _ _) ha hb (nomark _)
theorem t_leA (ha : PD X W a fa) (hb : PD X W b fb) : PDT X W (.Compare a [.LtE] [b] pos) (tB (e2 dLeA fa fb)) := t_cmp (op_le.or op_le_str) (q_CA _ _) ha hb (nomark _)
/-! ### x.split(y) -/
def dSplit : D → D → Option D
  | .str x, .str y => if (y.length == 0) = false ∧ x.length + 2 ≤ sizeLine ∧ (Txt.split x y).length ≤ sizeLine then some (.lst ((Txt.split x y).map .str)) else none
  | _, _ => none
theorem dens_strs {K : PySem.W.Frag} {dr : Option Addr} {F : Hp} : ∀ ys : List Str, Dens K W dr F (ys.map V.str) (ys.map D.str)
  | [] => .nil
  | y :: ys => .cons (.str y) (dens_strs ys)
theorem d_split {apos : Pos} (ha : PD X W a fa) (hb : PD X W b fb) (hq : ∀ ρ n z n', fb ρ n = some (.error z, n') → False := by intro _ _ _ _ h; cases h) (hs : starEach [b] X.env = [(false, eval b X.env)] := by rfl) (hbase : attributeBase a "split" X.env (eval a X.env) = eval a X.env := by rfl) (hline : (apos.endLine == pos.line) = true := by rfl) :
    PD X W (.Call (.Attribute a "split" apos) [b] [] pos) (e2 dSplit fa fb) := imp_E (pe_split ha hb hs hbase hline) fun σ H Q ⟨fr, F, ρ, n, r, n', R, ev, k⟩ => by
  rcases r with z | d
  · rcases M.bind_err ev with h | ⟨x, n1, h1, h⟩
    · exact ⟨fr, F, ρ, n, .error z, n', R, h, k⟩
    · rcases M.bind_err h with h | ⟨_, _, _, h⟩
      · exact (hq _ _ _ _ h).elim
      · exact (M.opt_err h).elim
  obtain ⟨x, n1, h1, h2⟩ := M.bind_ok ev
  obtain ⟨y, n2, h3, h4⟩ := M.bind_ok h2
  obtain ⟨h5, h6⟩ := M.opt_ok h4
  subst h6
  unfold dSplit at h5
  split at h5
  · split at h5
    · rename_i x y q
      cases h5
      refine ⟨fr, F, ρ, n, .ok _, n1, R, h1, fun F1 H1 v R1 s1 d1 => ?_⟩
      cases d1
      refine ⟨⟨_, rfl⟩, fr, F1, ρ, n1, .ok _, _, R1, h3, fun F2 H2 u R2 s2 d2 => ?_⟩
      cases d2
      exact ⟨x, y, rfl, rfl, q.1, q.2.1, put_lst R2 (dens_strs _) fun F' H' v R' s' d' => k F' H' v R' ((s1.trans s2).trans s') d'⟩
    · cases h5
  · cases h5
end
end DL
end

section
set_option Elab.async false
set_option linter.all false
set_option autoImplicit false
set_option maxRecDepth 100000
namespace DL
open PySem PySem.Spec L2 PyProof.Rows
section
variable {α : Type}
def ins (le : α → α → Bool) (x : α) : List α → List α
  | [] => [x]
  | y :: r => if le x y = true then x :: y :: r else y :: ins le x r
def srt (le : α → α → Bool) : List α → List α
  | [] => []
  | x :: r => ins le x (srt le r)
theorem ins_perm (le : α → α → Bool) (x : α) : ∀ l : List α, (ins le x l).Perm (x :: l)
  | [] => .refl _
  | y :: r => by
    unfold ins
    split
    · exact .refl _
    · exact ((ins_perm le x r).cons y).trans (.swap x y r)
theorem srt_perm (le : α → α → Bool) : ∀ l : List α, (srt le l).Perm l
  | [] => .refl _
  | x :: r => (ins_perm le x _).trans ((srt_perm le r).cons x)
theorem ins_sorted {le : α → α → Bool} (tot : ∀ x y, le x y = true ∨ le y x = true) (tr : ∀ x y z, le x y = true → le y z = true → le x z = true) (x : α) : ∀ l : List α, l.Pairwise (fun a b => le a b = true) → (ins le x l).Pairwise (fun a b => le a b = true)
  | [], _ => List.pairwise_singleton ..
  | y :: r, h => by
    unfold ins
    rw [List.pairwise_cons] at h
    split
    · rename_i q
      refine List.pairwise_cons.mpr ⟨fun z hz => ?_, List.pairwise_cons.mpr h⟩
      rcases List.mem_cons.mp hz with e | e
      · rw [e]; exact q
      · exact tr _ _ _ q (h.1 z e)
    · rename_i q
      refine List.pairwise_cons.mpr ⟨fun z hz => ?_, ins_sorted tot tr x r h.2⟩
      rcases List.mem_cons.mp ((ins_perm le x r).mem_iff.mp hz) with e | e
      · rw [e]
        rcases tot x y with t | t
        · exact absurd t q
        · exact t
      · exact h.1 z e
theorem srt_sorted {le : α → α → Bool} (tot : ∀ x y, le x y = true ∨ le y x = true) (tr : ∀ x y z, le x y = true → le y z = true → le x z = true) : ∀ l : List α, (srt le l).Pairwise (fun a b => le a b = true)
  | [] => .nil
  | x :: r => ins_sorted tot tr x _ (srt_sorted tot tr r)
theorem perm_uniq {R : α → α → Prop} (anti : ∀ x y, R x y → R y x → x = y) : ∀ {l m : List α}, l.Pairwise R → m.Pairwise R → l.Perm m → l = m
  | [], m, _, _, p => by rw [List.Perm.nil_eq p]
  | x :: l, [], _, _, p => absurd p.symm.nil_eq (by simp)
  | x :: l, y :: m, h, h', p => by
    rw [List.pairwise_cons] at h h'
    have e : x = y := by
      rcases List.mem_cons.mp (p.mem_iff.mp List.mem_cons_self) with e | e
      · exact e
      · rcases List.mem_cons.mp (p.mem_iff.mpr List.mem_cons_self) with e' | e'
        · exact e'.symm
        · exact anti _ _ (h.1 y e') (h'.1 x e)
    subst e
    rw [perm_uniq anti h.2 h'.2 (List.Perm.cons_inv p)]
end
def leS (x y : Str) : Bool := !ltCps y.cps.toList x.cps.toList
def leZ (x y : Int) : Bool := decide (x ≤ y)
theorem leS_iff (x y : Str) : leS x y = true ↔ x.cps.toList ≤ y.cps.toList := by
  unfold leS
  rw [ltCps_eq]
  simp
theorem leS_tot (x y : Str) : leS x y = true ∨ leS y x = true := by
  rw [leS_iff, leS_iff]; exact List.le_total _ _
theorem leS_tr (x y z : Str) (h : leS x y = true) (h' : leS y z = true) : leS x z = true := by
  rw [leS_iff] at *; exact List.le_trans h h'
theorem leS_anti (x y : Str) (h : leS x y = true) (h' : leS y x = true) : x = y := by
  rw [leS_iff] at *
  have := List.le_antisymm h h'
  cases x; cases y
  simp at this
  rw [this]
theorem rising_pw : ∀ (x : Str) (r : List Str), risingS x r = true → (x :: r).Pairwise (fun a b => leS a b = true)
  | x, [], _ => List.pairwise_singleton ..
  | x, y :: r, h => by
    have h' : (!ltCps y.cps.toList x.cps.toList && risingS y r) = true := h
    rw [Bool.and_eq_true] at h'
    have ih := rising_pw y r h'.2
    refine List.pairwise_cons.mpr ⟨fun z hz => ?_, ih⟩
    rcases List.mem_cons.mp hz with e | e
    · rw [e]; exact h'.1
    · exact leS_tr _ _ _ h'.1 ((List.pairwise_cons.mp ih).1 z e)
theorem sortedS_pw {l : List Str} (h : sortedS l = true) : l.Pairwise (fun a b => leS a b = true) := by
  cases l with
  | nil => exact .nil
  | cons x r => exact rising_pw x r h
def strsD : List D → Option (List Str)
  | [] => some []
  | .str x :: r => (match strsD r with | some l => some (x :: l) | none => none)
  | _ :: _ => none
def intsD : List D → Option (List Int)
  | [] => some []
  | .int x :: r => (match intsD r with | some l => some (x :: l) | none => none)
  | _ :: _ => none
theorem strsD_ok {K : PySem.W.Frag} {W : Wd} {dr : Option Addr} {F : Hp} : ∀ {vs : List V} {ds : List D} {l : List Str}, Dens K W dr F vs ds → strsD ds = some l → vs = l.map V.str
  | _, _, _, .nil, h => by cases h; rfl
  | _, d :: ds, _, .cons h1 h2, h => by
    unfold strsD at h
    split at h
    · rename_i e
      cases e
    · rename_i x r e
      cases e
      split at h
      · rename_i l q
        cases h
        cases h1
        rw [strsD_ok h2 q]; rfl
      · cases h
    · cases h
theorem intsD_ok {K : PySem.W.Frag} {W : Wd} {dr : Option Addr} {F : Hp} : ∀ {vs : List V} {ds : List D} {l : List Int}, Dens K W dr F vs ds → intsD ds = some l → vs = l.map V.int
  | _, _, _, .nil, h => by cases h; rfl
  | _, d :: ds, _, .cons h1 h2, h => by
    unfold intsD at h
    split at h
    · rename_i e
      cases e
    · rename_i x r e
      cases e
      split at h
      · rename_i l q
        cases h
        cases h1
        rw [intsD_ok h2 q]; rfl
      · cases h
    · cases h
def dSorted : List D → Option D
  | [.lst ds] => (match strsD ds with
    | some l => if l.length < 64 then some (.lst ((srt leS l).map .str)) else none
    | none => (match intsD ds with
      | some l => some (.lst ((srt leZ l).map .int))
      | none => none))
  | _ => none
section
variable {X : Cx} {W : Wd}
theorem dens_ints {K : PySem.W.Frag} {dr : Option Addr} {F : Hp} : ∀ ys : List Int, Dens K W dr F (ys.map V.int) (ys.map D.int)
  | [] => .nil
  | y :: ys => .cons (.int y) (dens_ints ys)
theorem call_sortedA : CallR X (.builtin "sorted") (fun xs H Q => rSortedS X.K xs H Q ∨ rSortedI X.K xs H Q) := cr_sortedS.or cr_sortedI
theorem q_sorted {K : PySem.W.Frag} : CallD K W (fun xs H Q => rSortedS K xs H Q ∨ rSortedI K xs H Q) dSorted := by
  intro fr F H σ ρ n xs d vs Q R dx h k
  unfold dSorted at h
  split at h
  · rename_i ds
    cases dx with
    | cons h1 h2 =>
      cases h2
      cases h1 with
      | lst h3 h4 =>
        split at h
        · rename_i l q
          split at h
          · rename_i hl
            cases h
            have e := strsD_ok h4 q
            subst e
            refine .inl ⟨_, l, rfl, SqL.of (R.core.sub _ _ h3), hl, fun ys p hp hs hn => ?_⟩
            have e : ys = srt leS l := perm_uniq leS_anti (sortedS_pw hs) (srt_sorted leS_tot leS_tr l) (hp.trans (srt_perm leS l).symm)
            rw [e]
            exact put_lst R (dens_strs _) k p hn
          · cases h
        · split at h
          · rename_i l q
            cases h
            have e := intsD_ok h4 q
            subst e
            refine .inr ⟨_, l, rfl, SqL.of (R.core.sub _ _ h3), fun ys p hp hs hn => ?_⟩
            have e : ys = srt leZ l := perm_uniq (R := fun a b : Int => leZ a b = true) (fun x y h h' => by have a := of_decide_eq_true h; have b := of_decide_eq_true h'; omega) (hs.imp fun h => decide_eq_true h) (srt_sorted (fun x y => by unfold leZ; simp; omega) (fun x y z h h' => by have a := of_decide_eq_true h; have b := of_decide_eq_true h'; exact decide_eq_true (by omega)) l) (hp.trans (srt_perm leZ l).symm)
            rw [e]
            exact put_lst R (dens_ints _) k p hn
          · cases h
  · cases h
end
end DL
end

section
set_option Elab.async false
set_option linter.all false
set_option autoImplicit false
set_option maxRecDepth 100000
namespace DL
open PySem PySem.Spec L2 PyProof.Rows
section
variable {X : Cx} {W : Wd} {a : Addr}
theorem call_list_kd {es : Array DictEntry} {n : Nat} {ks : List Str} (hc : X.calm = true) (D : KDict X.K X.w a es n) (hk : es.toList.map He.keyOf = He.keysIn X.w.params ks) (hz : ks.length ≤ 1000) :
    CallR X (.type "list") (fun xs H Q => xs = [.ref a] ∧ ∀ q, H q = none → Q (.ref q) (upd H q (.lst (ks.map V.str)))) := by
  intro pins s σ H xs us Q I r h
  obtain ⟨e, q⟩ := h
  subst e
  obtain ⟨u, eu, rx⟩ := vals1 r
  subst eu
  obtain rfl : u = Value.ref a := rx
  have hat := I.kIn _ _ D.at_
  have hl : es.size = ks.length := by
    have := congrArg List.length hk
    rw [List.length_map] at this
    unfold He.keysIn at this
    rw [List.length_map] at this
    simpa using this
  refine PySem.W.kdl_call (kdl_raw (o := ⟨.type "dict", none, .dict es n, #[]⟩) D.low ⟨rfl, rfl, rfl⟩ rfl) (I.ok.hd hc) hat (by rw [sizeLine_eq]; omega) fun h' tk acc' c' hkeep hS hacc => ?_
  refine ⟨.ref s.heap.objs.size, upd H s.heap.objs.size (.lst (ks.map V.str)), I.laid hkeep (Nat.le_refl _) (show ObjOk X.prog X.w _ _ _ (.lst (ks.map V.str)) from ⟨?_, acc'.toList, c', ?_, ?_⟩), rfl, q _ (I.hok.fresh (Nat.le_refl _))⟩
  · rw [List.length_map, sizeLine_eq]; omega
  · have el : acc'.toList.length = acc'.size := by simp
    refine vals_of_at (by rw [List.length_map, el, hacc.1, hl]) fun j x w h1 h2 => ?_
    obtain ⟨en, hen, hw⟩ := hacc.2 j w (by rw [← Array.getElem?_toList]; exact h2)
    have e1 : (es.toList.map He.keyOf)[j]? = some (He.keyOf en) := by
      rw [List.getElem?_map, Array.getElem?_toList, hen]; rfl
    rw [hk] at e1
    unfold He.keysIn at e1
    rw [List.getElem?_map] at h1 e1
    cases z : ks[j]? with
    | none => rw [z] at h1; cases h1
    | some k =>
      rw [z] at h1 e1
      cases h1
      have e2 : some (k, PyData.keyHash X.w.params k) = He.keyOf en := by injection e1
      unfold He.keyOf at e2
      split at e2
      · rename_i x t hx
        injection e2 with e2
        injection e2 with e2 e3
        subst hw
        exact ⟨t, by rw [hx, e2]⟩
      · cases e2
  · rw [Array.toArray_toList]; exact hS
/-- the table and its keys in their order -/
structure KTabs (K : PySem.W.Frag) (w : World) (W : Wd) (a : Addr) (tbl : List (Str × D)) : Prop extends KTab K w W a tbl where
  ord : ∃ (es : Array DictEntry) (n : Nat), KDict K w a es n ∧ es.toList.map He.keyOf = He.keysIn w.params (tbl.map (·.1))
  few : tbl.length ≤ 1000
theorem ktabs_of {K : PySem.W.Frag} {w : World} {W : Wd} {a : Addr} {tbl : List (Str × D)} (h1 : He.dicW K a = some (He.keysIn w.params (tbl.map (·.1)))) (h2 : tabDB K a tbl = true) (h3 : decide (tbl.length ≤ 1000) = true) : KTabs K w W a tbl := by
  refine ⟨ktab_of h1 h2, ?_, of_decide_eq_true h3⟩
  obtain ⟨es, n, T⟩ := He.dicW_ok h1
  refine ⟨es, n, T, ?_⟩
  unfold He.dicW at h1
  rw [T.at_] at h1
  simp [T.low] at h1
  exact h1
theorem d_lstK {x : Str} {tbl : List (Str × D)} {p p2 pos : Pos} (hc : X.calm = true) (T : KTabs X.K X.w W a tbl) (hgf : Gl X "list") (hmf : X.mg "list" = none) (hg : Gl X x) (hm : X.mg x = some (.ref a)) (hd : (x == ("__debug__" : Str)) = false := by decide)
    (he : starEach [.Name x p2] X.env = (false, eval (.Name x p2) X.env) :: starEach [] X.env := by rfl) (hpl : (backTo pos (starEach [] X.env)).any (·.1) = false := by rfl) :
    PD X W (.Call (.Name "list" p) [.Name x p2] [] pos) (eC (.lst (tbl.map fun q => .str q.1))) := by
  obtain ⟨es, n, kd, hk⟩ := T.ord
  refine imp_E (pe_callTy (call_list_kd hc kd hk (by rw [List.length_map]; exact T.few)) hgf hmf rfl (pa_cons (pe_glob (v := .ref a) hg hm rfl hd) pa_nil he) (by decide) (by decide) he hpl) fun σ H Q ⟨fr, F, ρ, n, r, n', R, ev, k⟩ => ?_
  rcases r with z | d
  · exact (M.pure_err ev).elim
  obtain ⟨h1, h2⟩ := M.pure_ok ev
  subst h1 h2
  refine ⟨rfl, put_lst R ?_ k⟩
  have := dens_strs (K := X.K) (W := W) (dr := fr.dr) (F := F) (tbl.map (·.1))
  have e : (tbl.map fun q => DL.D.str q.1) = (tbl.map (·.1)).map DL.D.str := by rw [List.map_map]; rfl
  rw [e]
  exact this
/-- the same, where the dict stands is not told -/
def Tab (K : PySem.W.Frag) (w : World) (W : Wd) (mg : Str → Option Value) (x : Str) (tbl : List (Str × D)) : Prop := ∃ a : Addr, mg x = some (.ref a) ∧ KTabs K w W a tbl
theorem d_inT {x : Str} {tbl : List (Str × D)} {e : Expr} {f : EX} {p pos : Pos} (T : Tab X.K X.w W X.mg x tbl) (hg : Gl X x) (he : PD X W e f) (hd : (x == ("__debug__" : Str)) = false := by decide) (hb : behindInMarks .In (.Name x p) = false := by rfl) : PD X W (.Compare e [.In] [.Name x p] pos) (e1 (dInK tbl) f) :=
  T.elim fun a h => d_inK h.2.toKTab hg h.1 he hd hb
theorem d_niT {x : Str} {tbl : List (Str × D)} {e : Expr} {f : EX} {p pos : Pos} (T : Tab X.K X.w W X.mg x tbl) (hg : Gl X x) (he : PD X W e f) (hd : (x == ("__debug__" : Str)) = false := by decide) (hb : behindInMarks .NotIn (.Name x p) = false := by rfl) : PD X W (.Compare e [.NotIn] [.Name x p] pos) (e1 (dNiK tbl) f) :=
  T.elim fun a h => d_niK h.2.toKTab hg h.1 he hd hb
theorem d_ixT {x : Str} {tbl : List (Str × D)} {e : Expr} {f : EX} {p pos : Pos} (T : Tab X.K X.w W X.mg x tbl) (hg : Gl X x) (he : PD X W e f) (hd : (x == ("__debug__" : Str)) = false := by decide) (hs : PlainIx e := by exact fun _ _ => rfl) : PD X W (.Subscript (.Name x p) e pos) (e1 (dIxK tbl) f) :=
  T.elim fun a h => d_ixK h.2.toKTab hg h.1 he hd hs
theorem d_lstT {x : Str} {tbl : List (Str × D)} {p p2 pos : Pos} (hc : X.calm = true) (T : Tab X.K X.w W X.mg x tbl) (hgf : Gl X "list") (hmf : X.mg "list" = none) (hg : Gl X x) (hd : (x == ("__debug__" : Str)) = false := by decide)
    (he : starEach [.Name x p2] X.env = (false, eval (.Name x p2) X.env) :: starEach [] X.env := by rfl) (hpl : (backTo pos (starEach [] X.env)).any (·.1) = false := by rfl) :
    PD X W (.Call (.Name "list" p) [.Name x p2] [] pos) (eC (.lst (tbl.map fun q => .str q.1))) :=
  T.elim fun a h => d_lstK hc h.2 hgf hmf hg h.1 hd he hpl
end
end DL
namespace DL
open PySem PySem.Spec L2
theorem d_cint {X : Cx} {W : Wd} {x : Str} {pos : Pos} {i : Int} (hg : Gl X x) (h : ∃ t, X.mg x = some (.int i t)) (hd : (x == ("__debug__" : Str)) = false := by decide) : PD X W (.Name x pos) (eC (.int i)) :=
  h.elim fun t e => d_glob (v := .int i) hg e ⟨t, rfl⟩ (fun _ _ _ _ => .int _) hd
end DL
end

section
set_option Elab.async false
set_option linter.all false
set_option autoImplicit false
set_option maxRecDepth 100000
namespace DL
open PySem PySem.Spec L2 PyProof.Rows
def dIntA : List D → Option D
  | [.str a] => (match PySem.intText? a with
    | some n => if a.length ≤ 640 then some (.int n) else none
    | none => none)
  | xs => dInt xs
section
variable {X : Cx} {W : Wd}
def rIntT : List V → Hp → VK → Prop := fun xs H Q => ∃ a n, xs = [.str a] ∧ PySem.intText? a = some n ∧ a.length ≤ 640 ∧ Q (.int n) H
theorem call_intA : CallR X (.type "int") (fun xs H Q => ((∃ i, xs = [.int i] ∧ Q (.int i) H) ∨ ∃ k, xs = [.bl k] ∧ Q (.int (if k then 1 else 0)) H) ∨ rIntT xs H Q) := call_int1.or call_int_str
theorem q_intA {K : PySem.W.Frag} : CallD K W (fun xs H Q => ((∃ i, xs = [.int i] ∧ Q (.int i) H) ∨ ∃ k, xs = [.bl k] ∧ Q (.int (if k then 1 else 0)) H) ∨ rIntT xs H Q) dIntA := by
  intro fr F H σ ρ n xs d vs Q R dx h k
  unfold dIntA at h
  split at h
  · rename_i a
    cases q : PySem.intText? a with
    | none => rw [q] at h; cases h
    | some m =>
      rw [q] at h
      have h : (if a.length ≤ 640 then some (D.int m) else none) = some d := h
      split at h
      · rename_i hl
        cases h
        cases dx with
        | cons h1 h2 => cases h2; cases h1; exact .inr ⟨a, m, rfl, q, hl, k F H _ R (Sub.refl _) (.int _)⟩
      · cases h
  · exact .inl (q_int fr F H σ ρ n xs d vs Q R dx h k)
end
end DL
end

section
set_option Elab.async false
set_option linter.all false
set_option autoImplicit false
set_option maxRecDepth 100000
set_option maxHeartbeats 1000000
namespace DL
open PySem PySem.Spec L2
/-! ### exceptions -/
/-- an own class of exceptions without __init__ -/
structure XCls (K : PySem.W.Frag) (mg : Str → Option Value) (x : Str) (C : Addr) : Prop where
  base : PySem.W.excIn K C [.type "ValueError", .type "Exception", .type "BaseException", .type "object"] "ValueError.__new__" = true
  g : mg x = some (.ref C)
  kp : PySem.W.keepIn K (.ref C) = true
  sub : PySem.W.subIn K (.ref C) (.type "BaseException") = some true
  ty : PySem.W.typeIn K (.ref C) = some (.type "type")
section
variable {X : Cx} {W : Wd}
/-- raise C('..') -/
def sRaise (c : Nat) : SX := fun _ n => some (.error ⟨c, [], []⟩, n)
theorem S_raise {c : Nat} {x m : Str} {j : Nat} {p p2 pos pos' : Pos} (hc : X.calm = true) (F : XCls X.K X.mg x (W.cl c)) (hg : Gl X x) (hdb : (x == ("__debug__" : Str)) = false := by decide) : PDS X W (.Raise (some (.Call (.Name x p) [.Constant (.str m) j p2] [] pos)) none pos') (sRaise c) :=
  imp_S (ps_raise hc takesAcc (pmk_own PySem.F.excBase_ValueError F.base F.g F.kp (raises_own F.sub F.ty) hg hdb)) fun E σ H ⟨fr, G, ρ, n, r, n', R, e, k⟩ => by
    unfold sRaise at e
    cases e
    exact k G H σ _ _ R.core (Sub.refl _) ⟨rfl, .inl ⟨rfl, rfl, rfl⟩⟩
/-- a statement that lets its errors out at the slots as they were -/
def tSx (X : Cx) (W : Wd) (g : SX) : TS := fun E σ H => ∃ fr F ρ n r n', Rel X.K W fr F H σ ρ n ∧ g ρ n = some (r, n') ∧ Res (fun o => OutK X.K W fr F E o n') (KX X W fr F σ ρ n') r
theorem S_retX {e : Expr} {f : EX} {pos : Pos} (he : PD X W e f) : PS X (.Return (some e) pos) (tSx X W (sRet f)) := imp_S (ps_ret he) fun E σ H ⟨fr, F, ρ, n, r, n', R, e, k⟩ => by
  rcases r with z | o
  · exact R.dE e k fun _ _ _ _ _ _ h _ _ _ => (M.pure_err h).elim
  obtain ⟨x, n1, e1, h⟩ := M.bind_ok e
  obtain ⟨h1, h2⟩ := M.pure_ok h
  subst h1 h2
  exact ⟨fr, F, ρ, n, .ok x, _, R, e1, fun F1 H1 v R1 s1 d1 => k F1 H1 v R1.core s1 d1⟩
theorem S_expX {e : Expr} {f : EX} {pos : Pos} (he : PD X W e f) (hs : swapsWith e none pos.line X.env = pure false := by rfl) : PS X (.Expr e pos) (tSx X W (sExp f)) := imp_S (ps_expr he hs) fun E σ H ⟨fr, F, ρ, n, r, n', R, e, k⟩ => by
  rcases r with z | o
  · exact R.dE e k fun _ _ _ _ _ _ h _ _ _ => (M.pure_err h).elim
  obtain ⟨x, n1, e1, h⟩ := M.bind_ok e
  obtain ⟨h1, h2⟩ := M.pure_ok h
  subst h1 h2
  exact ⟨fr, F, ρ, n, .ok x, _, R, e1, fun F1 H1 v R1 s1 d1 => k F1 H1 σ R1 s1⟩
/-- x = e -/
theorem S_asgX {tg e : Expr} {f : EX} {t : TG} {g : GX} {pos : Pos} (he : PD X W e f) (ht : PG X tg t) {is : List Nat} (hg : GOk X.K W t g is) (hs : swapsWithSole [tg] e pos.line X.env = pure false := by rfl) (hw : swappedStores [tg] e X.env = pure none := by rfl)
    (h1 : (assignEach [tg] X.env).map (·.2) = [assign tg X.env] := by rfl) : PS X (.Assign [tg] e pos) (tSx X W (sAsg g f)) := imp_S (ps_asg he ht hs hw h1) fun E σ H ⟨fr, F, ρ, n, r, n', R, e, k⟩ => by
  rcases r with z | o
  · refine R.dE e k fun _ _ _ _ _ _ h _ _ _ => ?_
    rcases M.bind_err h with h | ⟨_, _, _, h⟩
    · exact (M.opt_err h).elim
    · exact (M.pure_err h).elim
  obtain ⟨x, n1, e1, ha⟩ := M.bind_ok e
  obtain ⟨ρ', n2, e2, h⟩ := M.bind_ok ha
  obtain ⟨h1, h2⟩ := M.pure_ok h
  obtain ⟨h3, h4⟩ := M.opt_ok e2
  clear ha h
  subst h4
  subst h1 h2
  exact ⟨fr, F, ρ, n, .ok x, _, R, e1, fun F1 H1 v R1 s1 d1 => hg fr F1 H1 σ ρ ρ' _ v x _ R1 d1 h3 fun σ' R' _ => k F1 H1 σ' R' s1⟩
/-- behind a body that hands its ends to the rest: x = e; return .. (the rest raises nothing) -/
def sSeqX (g h : SX) : SX := fun ρ => M.bind (g ρ) fun o => match o with
  | .nx ρ' => M.calm (h ρ')
  | .bk ρ' => M.pure (.bk ρ')
  | .ct ρ' => M.pure (.ct ρ')
  | .ret d => M.pure (.ret d)
theorem S_consX {st : Stmt} {r : List Stmt} {g h : SX} (hg : PS X st (tSx X W g)) (hh : PDSs X W r h) : PSs X (st :: r) (tSx X W (sSeqX g h)) := imp_Ss (pss_cons hg hh) fun E σ H ⟨fr, F, ρ, n, r, n', R, e, k⟩ => by
  rcases M.bind_any e with ⟨z, e1, rfl⟩ | ⟨o1, n1, e1, h⟩
  · exact ⟨fr, F, ρ, n, .error z, n', R, e1, k⟩
  refine ⟨fr, F, ρ, n, .ok o1, n1, R, e1, ?_⟩
  cases o1 with
  | nx ρ1 =>
    rcases r with z | o
    · exact (M.calm_err h).elim
    · exact fun F1 H1 σ1 R1 s1 => ⟨fr, F1, ρ1, n1, .ok o, n', R1, M.calm_ok h, OutK.mono s1 k⟩
  | bk ρ1 =>
    obtain ⟨h1, h2⟩ := M.pure_any h
    subst h1 h2
    exact k
  | ct ρ1 =>
    obtain ⟨h1, h2⟩ := M.pure_any h
    subst h1 h2
    exact k
  | ret d =>
    obtain ⟨h1, h2⟩ := M.pure_any h
    subst h1 h2
    exact k
theorem S_oneX {st : Stmt} {g : SX} (h : PS X st (tSx X W g)) : PSs X [st] (tSx X W g) := pss_one h
/-- what raises nothing -/
def tSk (K : PySem.W.Frag) (W : Wd) (g : SX) : TS := fun E σ H => ∃ fr F ρ n o n', Rel K W fr F H σ ρ n ∧ g ρ n = some (.ok o, n') ∧ OutK K W fr F E o n'
theorem sk {st : List Stmt} {g : SX} (h : PDSs X W st g) : PSs X st (tSk X.K W g) := imp_Ss h fun E σ H ⟨fr, F, ρ, n, o, n', R, e, k⟩ => ⟨fr, F, ρ, n, .ok o, n', R, e, k⟩
/-- a body's wish about exceptions by a wish at the slots -/
def tSW (K : PySem.W.Frag) (W : Wd) (Wx : WX) (g : SX) : TS := fun E σ H => ∃ fr F ρ n r n', Rel K W fr F H σ ρ n ∧ g ρ n = some (r, n') ∧ Res (fun o => OutK K W fr F E o n') (fun z => ∀ F' H' cls d, Rel K W fr F' H' σ ρ n' → Sub F F' → XDen K W fr.dr F' H' z cls d → Wx cls d σ H') r
theorem sw_of {st : List Stmt} {g : SX} {Wx : WX} (tk : Takes X Wx) (h : PSs X st (tSx X W g)) : PSs X st (tSW X.K W Wx g) := imp_Ss h fun E σ H ⟨fr, F, ρ, n, r, n', R, e, k⟩ => by
  rcases r with z | o
  · exact ⟨fr, F, ρ, n, .error z, n', R, e, fun F' H' cls d R' s' x => Acc.of tk (k F' H' cls d R' s' x)⟩
  · exact ⟨fr, F, ρ, n, .ok o, n', R, e, k⟩
/-- try: g except c: h; m: which classes the clause takes -/
def sTry (m : Nat → Option Bool) (g h : SX) : SX := fun ρ n => match g ρ n with
  | some (.error z, n1) => (match m z.c with
    | some true => M.calm (h ρ) n1
    | some false => some (.error z, n1)
    | none => none)
  | r => r
theorem S_try {x : Str} {c : Value} {body suite : List Stmt} {b₀ : Stmt} {np pos pos' : Pos} {m : Nat → Option Bool} {g h : SX} (hs : X.stack = X.env :: X.outer) (hf : X.env.frame = some X.env.locals) (hc : Names X x c) (hm : ∀ i b, m i = some b → PySem.W.exmOne X.K (.ref (W.cl i)) c = some b)
    (hb : ∀ (pn : List (Addr × Obj)) (xe : Value → Shared → Prop), PassesOwn (model X.prog X.w) X.A X.env xe → PSs (X.tr pn xe) body (tSx (X.tr pn xe) W g))
    (hsu : ∀ (a : Addr) (pn : List (Addr × Obj)), PDSs (X.suite a pn) W (b₀ :: suite) h) :
    PDS X W (.Try body [.ExceptHandler (some (.Name x np)) none (b₀ :: suite) pos'] [] [] pos) (sTry m g h) :=
  imp_S (ps_try_only (Wout := Acc X) (tb := fun Wx => tSW X.K W Wx g) (ts := fun _ _ _ => tSk X.K W h) hs hf hc takesAcc (fun Wx pn xe tk po => sw_of tk (hb pn xe po)) fun a oe cls d pn _ _ => sk (hsu a _)) fun E σ H ⟨fr, F, ρ, n, r, n', R, e, k⟩ => by
    unfold sTry at e
    split at e
    · rename_i z n1 eg
      refine ⟨fr, F, ρ, n, .error z, n1, R, eg, fun F1 H1 cls d R1 s1 x => ?_⟩
      have ec : cls = .ref (W.cl z.c) := x.1
      split at e
      · rename_i hz
        rcases r with z' | o
        · exact (M.calm_err e).elim
        · exact ⟨true, by rw [ec]; exact hm _ _ hz, fun _ _ _ => ⟨fr, F1, ρ, n1, o, n', R1, M.calm_ok e, OutK.mono s1 k⟩, fun q => nomatch q⟩
      · rename_i hz
        cases e
        exact ⟨false, by rw [ec]; exact hm _ _ hz, (fun q => nomatch q), fun _ => k F1 H1 σ cls d R1.core s1 x⟩
      · cases e
    · rename_i hne
      rcases r with z | o
      · exact absurd e (hne z n')
      · exact ⟨fr, F, ρ, n, .ok o, n', R, e, k⟩
end
end DL
end

section
set_option Elab.async false
set_option linter.all false
set_option autoImplicit false
set_option maxRecDepth 100000
set_option maxHeartbeats 1000000
namespace DL
open PySem PySem.Spec L2
open PyProof.Rows (UnaryOp_ isTrue_plain not_of)
/-- nothing is let out -/
theorem passN {X : Cx} : Passes (L2.CX X.prog X.w) X E0 := fun _ _ _ _ _ _ _ ⟨_, _, _, _, _, _, _, _, _, _, _, _, z⟩ => z.elim
/-! ### own operators -/
def isC (c : Nat) : D → Bool
  | .obj c' _ _ => decide (c' = c)
  | _ => false
theorem isC_of {K : PySem.W.Frag} {W : Wd} {dr : Option Addr} {F H : Hp} {c : Nat} {v : V} {d : D} (s : Sub F H) (h : Den K W dr F v d) (e : isC c d = true) : ∃ p dx fs, v = .ref p ∧ H p = some (.ins (W.cl c) dx fs) := by
  unfold isC at e
  split at e
  · have e := of_decide_eq_true e
    subst e
    cases h with
    | obj l hF hd => exact ⟨_, _, _, rfl, s _ _ hF⟩
  · cases e
theorem relV_ni {v : V} (r : RelV v .notImplemented) : False := by
  cases v with
  | int i => obtain ⟨t, q⟩ := r; cases q
  | str i => obtain ⟨t, q⟩ := r; cases q
  | byt i => obtain ⟨t, q⟩ := r; cases q
  | flt i => obtain ⟨t, q⟩ := r; cases q
  | _ => cases r
theorem cmpBack_of {v : V} {u : Value} {s : Shared} {Q : Value → Shared → Prop} (r : RelV v u) (q : Q u s) : PySem.W.CmpBack Q u s := by
  unfold PySem.W.CmpBack
  split
  · exact relV_ni r
  · exact q
section
variable {X : Cx} {W : Wd} {c k : Nat} {m : Str} {pos : Pos} {a b : Expr} {fa fb : EX} {fx : FX}
/-- a op b by an own method -/
def eOwn2 (c : Nat) (fx : FX) (fa fb : EX) : EX := fun ρ => M.bind (fa ρ) fun x => M.bind (fb ρ) fun y => if isC c x && isC c y then fx [x, y] else M.opt none
theorem d_own2 {op : Operator} (F : CalM X.prog X.w X.K X.mg X.base (W.cl c) (PySem.dunder op.info.2) k (spD X.K W fx 2)) (hr : Room k X.A) (hc : PySem.W.selfFirst X.K (W.cl c) = true) (ha : PD X W a fa) (hb : PD X W b fb) :
    PD X W (.BinOp a op b pos) (eOwn2 c fx fa fb) := by
  obtain ⟨f, fd, ps, F, hm, hbd⟩ := F
  constructor
  intro pins s σ H Q I ⟨fr, G, ρ, n, r, n', R, e, kk⟩
  refine wpAny_BinOp (binT ha hb (R := fun x y H2 => spD X.K W fx 2 [x, y] H2 Q (EA X σ) ∧ (∃ p dx fs, x = .ref p ∧ H2 p = some (.ins (W.cl c) dx fs)) ∧ ∃ p dx fs, y = .ref p ∧ H2 p = some (.ins (W.cl c) dx fs)) I ?_ ?_)
  · rcases M.bind_any e with ⟨z, e1, rfl⟩ | ⟨x, n1, e1, h⟩
    · exact ⟨fr, G, ρ, n, .error z, n', R, e1, kk⟩
    refine ⟨fr, G, ρ, n, .ok x, n1, R, e1, fun F1 H1 v R1 s1 d1 => ?_⟩
    rcases M.bind_any h with ⟨z, e2, rfl⟩ | ⟨y, n2, e2, h2⟩
    · exact ⟨fr, F1, ρ, n1, .error z, n', R1, e2, KX.mono kk s1⟩
    refine ⟨fr, F1, ρ, n1, .ok y, n2, R1, e2, fun F2 H2 u R2 s2 d2 => ?_⟩
    split at h2
    · rename_i q
      rw [Bool.and_eq_true] at q
      have d1' := d1.mono (dr' := fr.dr) s2 fun _ z => z
      exact ⟨callee_back (F := G) rfl R2 (s1.trans s2) (.cons d1' (.cons d2 .nil)) h2 kk, isC_of R2.core.sub d1' q.1, isC_of R2.core.sub d2 q.2⟩
    · obtain ⟨_, q⟩ := M.opt_any h2
      cases q
  · rintro v u s2 x y H2 I2 rx ry ⟨sp, ⟨p, dx, fs, rfl, hp⟩, q, dy, gs, rfl, hq⟩
    have ev : v = Value.ref p := rx
    have eu : u = Value.ref q := ry
    subst ev eu
    obtain ⟨mA, J, _⟩ := ins_get I2.hok hp
    obtain ⟨mB, J', _⟩ := ins_get I2.hok hq
    obtain ⟨od, J, _⟩ := J.look
    obtain ⟨od', J', _⟩ := J'.look
    obtain ⟨mm, hF⟩ := I2.fr
    refine PySem.W.binop_K hF I2.ok.mod.kin J J'.type hc hm.at_ hm.fn (thn (run_fnS (us := [.ref p, .ref q]) F hr hbd passEA I2 (.cons rx (.cons ry .nil)) sp) ?_)
    rintro w s3 ⟨z, H3, I3, rz, qz⟩
    exact cmpBack_of rz ⟨z, H3, I3, rz, qz⟩
/-! ### comparisons, truth, attributes that raise nothing -/
def e2M (op : D → D → M D) (fa fb : EX) : EX := fun ρ => M.bind (fa ρ) fun x => M.bind (fb ρ) fun y => M.calm (op x y)
def Op2M (K : PySem.W.Frag) (W : Wd) (r : R2) (op : D → D → M D) : Prop := ∀ (fr : Fr) (F H : Hp) (σ : St) (ρ : Env) (n n' : Int) (x y d : D) (v u : V) (Q : VK), Rel K W fr F H σ ρ n → Den K W fr.dr F v x → Den K W fr.dr F u y → op x y n = some (.ok d, n') →
  (∀ F' H' w, Rel K W fr F' H' σ ρ n' → Sub F F' → Den K W fr.dr F' w d → Q w H') → r v u H Q
theorem d_tOpM {r : R2} {op : D → D → M D} (hd : Op2M X.K W r op) {σ : St} {H : Hp} {Q : VK} (h : tD X W (e2M op fa fb) σ H Q) : tOp r (tD X W fa) (tD X W fb) σ H Q := by
  obtain ⟨fr, F, ρ, n, r, n', R, e, k⟩ := h
  rcases M.bind_any e with ⟨z, e1, rfl⟩ | ⟨x, n1, e1, h⟩
  · exact ⟨fr, F, ρ, n, .error z, n', R, e1, k⟩
  refine ⟨fr, F, ρ, n, .ok x, n1, R, e1, fun F1 H1 v R1 s1 d1 => ?_⟩
  rcases M.bind_any h with ⟨z, e2, rfl⟩ | ⟨y, n2, e2, h2⟩
  · exact ⟨fr, F1, ρ, n1, .error z, n', R1, e2, KX.mono k s1⟩
  refine ⟨fr, F1, ρ, n1, .ok y, n2, R1, e2, fun F2 H2 u R2 s2 d2 => ?_⟩
  rcases r with z | d
  · exact (M.calm_err h2).elim
  · exact hd fr F2 H2 σ ρ _ _ x y d v u Q R2 (d1.mono s2 fun _ z => z) d2 (M.calm_ok h2) fun F3 H3 w R3 s3 d3 => k F3 H3 w R3 ((s1.trans s2).trans s3) d3
theorem d_cmpM {o : CmpOp} {r : R2} {op : D → D → M D} (ho : OpR X (compareOp o) r) (hd : Op2M X.K W r op) (ha : PD X W a fa) (hb : PD X W b fb) (hm : behindInMarks o b = false) : PD X W (.Compare a [o] [b] pos) (e2M op fa fb) := imp_E (pe_cmpR ho ha hb hm) fun _ _ _ h => d_tOpM hd h
theorem t_cmpM {o : CmpOp} {r : R2} {op : D → D → M D} (ho : OpR X (compareOp o) r) (hd : Op2M X.K W r op) (ha : PD X W a fa) (hb : PD X W b fb) (hm : behindInMarks o b = false) : PDT X W (.Compare a [o] [b] pos) (tB (e2M op fa fb)) := imp_T (pt_cmpR ho ha hb hm) fun σ H Q h => t_test (fun _ _ _ => d_tOpM hd) h
/-- a method that is asked and raises nothing -/
theorem spD_ok {K : PySem.W.Frag} {mm : Nat} {fr : Fr} {F H : Hp} {σ : St} {ρ : Env} {n n' : Int} {ds : List D} {vs : List V} {d : D} {Q : VK} {E : XK} (hl : ds.length = mm) (R : Rel K W fr F H σ ρ n) (dd : Dens K W fr.dr F vs ds) (h : fx ds n = some (.ok d, n'))
    (k : ∀ F' H' w, Rel K W fr F' H' σ ρ n' → Sub F F' → Den K W fr.dr F' w d → Q w H') : spD K W fx mm vs H Q E :=
  ⟨by rw [dd.length]; exact hl, fr, F, n, ds, .ok d, n', R.core, dd, h, fun F2 H2 v c2 d2 => k F2 H2 v (R.back c2) c2.f0 d2⟩
def rOwn (K : PySem.W.Frag) (W : Wd) (c : Nat) (fx : FX) : R2 := fun x y H Q => (∃ p dx fs, x = .ref p ∧ H p = some (.ins (W.cl c) dx fs)) ∧ (∃ p dx fs, y = .ref p ∧ H p = some (.ins (W.cl c) dx fs)) ∧ spD K W fx 2 [x, y] H Q E0
def mOwn (c : Nat) (fx : FX) (x y : D) : M D := if isC c x && isC c y then fx [x, y] else M.opt none
theorem q_own {K : PySem.W.Frag} : Op2M K W (rOwn K W c fx) (mOwn c fx) := by
  intro fr F H σ ρ n n' x y d v u Q R dx dy h k
  unfold mOwn at h
  split at h
  · rename_i q
    rw [Bool.and_eq_true] at q
    exact ⟨isC_of R.core.sub dx q.1, isC_of R.core.sub dy q.2, spD_ok rfl R (.cons dx (.cons dy .nil)) h k⟩
  · cases (M.opt_ok h).1
/-- a == b by an own __eq__ -/
theorem o_ownCmp {o : CmpOp} {x : Str} (hu : X.A.units < cLine) (F : CalM X.prog X.w X.K X.mg X.base (W.cl c) x k (spD X.K W fx 2)) (hr : Room k X.A) (ho : (cmpInfo o).2.1 = x) (hcmp : ∀ v u, compareOp o v u = richCompare o v u) : OpR X (compareOp o) (rOwn X.K W c fx) := by
  obtain ⟨f, fd, ps, F, hm, hbd⟩ := F
  rintro pins s σ H x y v u Q I rx ry ⟨⟨p, dx, fs, rfl, hp⟩, ⟨q, dy, gs, rfl, hq⟩, sp⟩
  have ev : v = Value.ref p := rx
  have eu : u = Value.ref q := ry
  subst ev eu
  obtain ⟨mA, J, _⟩ := ins_get I.hok hp
  obtain ⟨mB, J', _⟩ := ins_get I.hok hq
  obtain ⟨od, J, _⟩ := J.look
  obtain ⟨od', J', _⟩ := J'.look
  obtain ⟨mm, hF⟩ := I.fr
  rw [hcmp]
  refine PySem.W.cmp_K hu hF I.ok.mod.kin J J'.type (by simp [PySem.W.notFirst]) (by rw [ho]; exact hm.at_) hm.fn (thn (run_fn (us := [.ref p, .ref q]) (vs := [.ref p, .ref q]) (dvs := []) (ds := []) F hr hbd .nil passN I (.cons rx (.cons ry .nil)) sp) ?_)
  rintro w s3 ⟨z, H3, I3, rz, qz⟩
  exact cmpBack_of rz ⟨z, H3, I3, rz, qz⟩
theorem o_ownEq (hu : X.A.units < cLine) (F : CalM X.prog X.w X.K X.mg X.base (W.cl c) "__eq__" k (spD X.K W fx 2)) (hr : Room k X.A) : OpR X (compareOp .Eq) (rOwn X.K W c fx) := o_ownCmp hu F hr rfl fun _ _ => rfl
theorem d_ownEq (hu : X.A.units < cLine) (F : CalM X.prog X.w X.K X.mg X.base (W.cl c) "__eq__" k (spD X.K W fx 2)) (hr : Room k X.A) (ha : PD X W a fa) (hb : PD X W b fb) : PD X W (.Compare a [.Eq] [b] pos) (e2M (mOwn c fx) fa fb) := d_cmpM (o_ownEq hu F hr) q_own ha hb (nomark _)
theorem t_ownEq (hu : X.A.units < cLine) (F : CalM X.prog X.w X.K X.mg X.base (W.cl c) "__eq__" k (spD X.K W fx 2)) (hr : Room k X.A) (ha : PD X W a fa) (hb : PD X W b fb) : PDT X W (.Compare a [.Eq] [b] pos) (tB (e2M (mOwn c fx) fa fb)) := t_cmpM (o_ownEq hu F hr) q_own ha hb (nomark _)
/-- x in c by an own __contains__ that gives a truth value -/
def rOwnIn (K : PySem.W.Frag) (W : Wd) (c : Nat) (fx : FX) (g : Bool → Bool) : R2 := fun x y H Q => (∃ p dx fs, y = .ref p ∧ H p = some (.ins (W.cl c) dx fs)) ∧ spD K W fx 2 [y, x] H (fun w H' => ∃ t, w = .bl t ∧ Q (.bl (g t)) H') E0
def mOwnIn (c : Nat) (fx : FX) (g : Bool → Bool) (x y : D) : M D := if isC c y then M.bind (fx [y, x]) (fun d => M.opt ((dBool d).map fun t => .bl (g t))) else M.opt none
theorem q_ownIn {K : PySem.W.Frag} {g : Bool → Bool} : Op2M K W (rOwnIn K W c fx g) (mOwnIn c fx g) := by
  intro fr F H σ ρ n n' x y d v u Q R dx dy h k
  unfold mOwnIn at h
  split at h
  · rename_i q
    obtain ⟨w, n1, h1, h2⟩ := M.bind_ok h
    obtain ⟨h3, h4⟩ := M.opt_ok h2
    subst h4
    refine ⟨isC_of R.core.sub dy q, spD_ok rfl R (.cons dy (.cons dx .nil)) h1 fun F1 H1 w1 R1 s1 d1 => ?_⟩
    cases w with
    | bl t => cases d1; cases h3; exact ⟨t, rfl, k F1 H1 _ R1 s1 (.bl _)⟩
    | _ => cases h3
  · cases (M.opt_ok h).1
theorem o_ownIn (F : CalM X.prog X.w X.K X.mg X.base (W.cl c) "__contains__" k (spD X.K W fx 2)) (hr : Room k X.A) : OpR X (compareOp .In) (rOwnIn X.K W c fx fun t => t) := by
  obtain ⟨f, fd, ps, F, hm, hbd⟩ := F
  rintro pins s σ H x y v u Q I rx ry ⟨⟨p, dx, fs, rfl, hp⟩, sp⟩
  have eu : u = Value.ref p := ry
  subst eu
  obtain ⟨mA, J, _⟩ := ins_get I.hok hp
  obtain ⟨od, J, _⟩ := J.look
  obtain ⟨mm, hF⟩ := I.fr
  refine PySem.W.in_K hF I.ok.mod.kin J hm.at_ hm.fn (thn (run_fn (us := [.ref p, v]) (vs := [.ref p, x]) (dvs := []) (ds := []) F hr hbd .nil passN I (.cons ry (.cons rx .nil)) sp) ?_)
  rintro w s3 ⟨z, H3, I3, rz, t, rfl, qz⟩
  have ew : w = Value.bool t := rz
  subst ew
  exact wpAny_truthy_bool ⟨.bl t, H3, I3, rfl, qz⟩
theorem o_ownNi (F : CalM X.prog X.w X.K X.mg X.base (W.cl c) "__contains__" k (spD X.K W fx 2)) (hr : Room k X.A) : OpR X (compareOp .NotIn) (rOwnIn X.K W c fx fun t => !t) := by
  obtain ⟨f, fd, ps, F, hm, hbd⟩ := F
  rintro pins s σ H x y v u Q I rx ry ⟨⟨p, dx, fs, rfl, hp⟩, sp⟩
  have eu : u = Value.ref p := ry
  subst eu
  obtain ⟨mA, J, _⟩ := ins_get I.hok hp
  obtain ⟨od, J, _⟩ := J.look
  obtain ⟨mm, hF⟩ := I.fr
  refine PySem.W.notIn_K hF I.ok.mod.kin J hm.at_ hm.fn (thn (run_fn (us := [.ref p, v]) (vs := [.ref p, x]) (dvs := []) (ds := []) F hr hbd .nil passN I (.cons ry (.cons rx .nil)) sp) ?_)
  rintro w s3 ⟨z, H3, I3, rz, t, rfl, qz⟩
  have ew : w = Value.bool t := rz
  subst ew
  exact wpAny_truthy_bool ⟨.bl (!t), H3, I3, rfl, qz⟩
theorem d_ownIn (F : CalM X.prog X.w X.K X.mg X.base (W.cl c) "__contains__" k (spD X.K W fx 2)) (hr : Room k X.A) (ha : PD X W a fa) (hb : PD X W b fb) (hm : behindInMarks .In b = false := by with_unfolding_all rfl) : PD X W (.Compare a [.In] [b] pos) (e2M (mOwnIn c fx fun t => t) fa fb) := d_cmpM (o_ownIn F hr) q_ownIn ha hb hm
theorem t_ownIn (F : CalM X.prog X.w X.K X.mg X.base (W.cl c) "__contains__" k (spD X.K W fx 2)) (hr : Room k X.A) (ha : PD X W a fa) (hb : PD X W b fb) (hm : behindInMarks .In b = false := by with_unfolding_all rfl) : PDT X W (.Compare a [.In] [b] pos) (tB (e2M (mOwnIn c fx fun t => t) fa fb)) := t_cmpM (o_ownIn F hr) q_ownIn ha hb hm
theorem d_ownNi (F : CalM X.prog X.w X.K X.mg X.base (W.cl c) "__contains__" k (spD X.K W fx 2)) (hr : Room k X.A) (ha : PD X W a fa) (hb : PD X W b fb) (hm : behindInMarks .NotIn b = false := by with_unfolding_all rfl) : PD X W (.Compare a [.NotIn] [b] pos) (e2M (mOwnIn c fx fun t => !t) fa fb) := d_cmpM (o_ownNi F hr) q_ownIn ha hb hm
theorem t_ownNi (F : CalM X.prog X.w X.K X.mg X.base (W.cl c) "__contains__" k (spD X.K W fx 2)) (hr : Room k X.A) (ha : PD X W a fa) (hb : PD X W b fb) (hm : behindInMarks .NotIn b = false := by with_unfolding_all rfl) : PDT X W (.Compare a [.NotIn] [b] pos) (tB (e2M (mOwnIn c fx fun t => !t) fa fb)) := t_cmpM (o_ownNi F hr) q_ownIn ha hb hm
/-- one operand -/
def e1M (op : D → M D) (fa : EX) : EX := fun ρ => M.bind (fa ρ) fun x => M.calm (op x)
def mOwn1 (c : Nat) (fx : FX) (x : D) : M D := if isC c x then fx [x] else M.opt none
/-- an own method of one instance, as a reading -/
theorem own1_of {σ : St} {H : Hp} {Q : VK} (h : tD X W (e1M (mOwn1 c fx) fa) σ H Q) : tD X W fa σ H fun x H1 => (∃ p dx fs, x = .ref p ∧ H1 p = some (.ins (W.cl c) dx fs)) ∧ spD X.K W fx 1 [x] H1 Q E0 := by
  obtain ⟨fr, F, ρ, n, r, n', R, e, k⟩ := h
  rcases M.bind_any e with ⟨z, e1, rfl⟩ | ⟨x, n1, e1, h⟩
  · exact ⟨fr, F, ρ, n, .error z, n', R, e1, k⟩
  refine ⟨fr, F, ρ, n, .ok x, n1, R, e1, fun F1 H1 v R1 s1 d1 => ?_⟩
  rcases r with z | d
  · exact (M.calm_err h).elim
  have h := M.calm_ok h
  unfold mOwn1 at h
  split at h
  · rename_i q
    exact ⟨isC_of R1.core.sub d1 q, spD_ok rfl R1 (.cons d1 .nil) h fun F2 H2 w R2 s2 d2 => k F2 H2 w R2 (s1.trans s2) d2⟩
  · cases (M.opt_ok h).1
/-- ~a by an own __invert__ -/
theorem d_ownInv (F : CalM X.prog X.w X.K X.mg X.base (W.cl c) "__invert__" k (spD X.K W fx 1)) (hr : Room k X.A) (ha : PD X W a fa) : PD X W (.UnaryOp .Invert a pos) (e1M (mOwn1 c fx) fa) := by
  obtain ⟨f, fd, ps, F, hm, hbd⟩ := F
  constructor
  intro pins s σ H Q I h
  refine UnaryOp_ (thn (ha.run pins s σ H _ I (own1_of h)) ?_)
  rintro v s1 ⟨x, H1, I1, rx, ⟨p, dx, fs, rfl, hp⟩, sp⟩
  have ev : v = Value.ref p := rx
  subst ev
  obtain ⟨mA, J, _⟩ := ins_get I1.hok hp
  obtain ⟨od, J, _⟩ := J.look
  obtain ⟨mm, hF⟩ := I1.fr
  exact PySem.W.ksp_inv hF I1.ok.mod.kin J hm.at_ hm.fn (run_fn (us := [.ref p]) (vs := [.ref p]) (dvs := []) (ds := []) F hr hbd .nil passN I1 (.cons rx .nil) sp)
/-- the truth of an instance by an own __bool__ -/
def tOwn (c : Nat) (fx : FX) (fa : EX) : TX := fun ρ => M.bind (e1M (mOwn1 c fx) fa ρ) fun d => M.opt (dBool d)
theorem tOwn_of {σ : St} {H : Hp} {Q : Bool → Hp → Prop} (h : tT X W (tOwn c fx fa) σ H Q) : tD X W fa σ H fun x H1 => (∃ p dx fs, x = .ref p ∧ H1 p = some (.ins (W.cl c) dx fs)) ∧ spD X.K W fx 1 [x] H1 (fun w H' => ∃ t, w = .bl t ∧ Q t H') E0 := by
  obtain ⟨fr, F, ρ, n, r, n', R, e, k⟩ := h
  rcases M.bind_any e with ⟨z, e1, rfl⟩ | ⟨d, n1, e1, h⟩
  · exact own1_of ⟨fr, F, ρ, n, .error z, n', R, e1, k⟩
  rcases r with z | t
  · exact (M.opt_err h).elim
  obtain ⟨h1, h2⟩ := M.opt_ok h
  subst h2
  refine own1_of ⟨fr, F, ρ, n, .ok d, _, R, e1, fun F1 H1 v R1 s1 d1 => ?_⟩
  unfold dBool at h1
  split at h1
  · cases h1; cases d1; exact ⟨_, rfl, k F1 H1 R1 s1⟩
  · cases h1
theorem truthy_own {f : Addr} {fd : FuncData} {ps : List Str} {pins : List (Addr × Obj)} {s1 : Shared} {σ : St} {H1 : Hp} {Q : Bool → Hp → Prop} {x : V} {v : Value} (F : FnOk X.prog X.w X.K X.mg X.base (L2.CX X.prog X.w) k f fd ps (spD X.K W fx 1)) (hm : Meth X.K (W.cl c) "__bool__" f) (hbd : Binds X.K fd ps []) (hr : Room k X.A)
    (I1 : Inv X pins σ H1 s1) (rx : RelV x v) (h : (∃ p dx fs, x = .ref p ∧ H1 p = some (.ins (W.cl c) dx fs)) ∧ spD X.K W fx 1 [x] H1 (fun w H' => ∃ t, w = .bl t ∧ Q t H') E0) : wpAny (model X.prog X.w) X.A (truthy v) (TP X pins σ Q) X.xe s1 := by
  obtain ⟨⟨p, dx, fs, rfl, hp⟩, sp⟩ := h
  have ev : v = Value.ref p := rx
  subst ev
  obtain ⟨mA, J, _⟩ := ins_get I1.hok hp
  obtain ⟨od, J, _⟩ := J.look
  obtain ⟨mm, hF⟩ := I1.fr
  refine PySem.W.truthy_K hF I1.ok.mod.kin J hm.at_ hm.fn (thn (run_fn (us := [.ref p]) (vs := [.ref p]) (dvs := []) (ds := []) F hr hbd .nil passN I1 (.cons rx .nil) sp) ?_)
  rintro w s3 ⟨z, H3, I3, rz, t, rfl, qz⟩
  have ew : w = Value.bool t := rz
  subst ew
  exact ⟨H3, I3, qz⟩
theorem t_own (F : CalM X.prog X.w X.K X.mg X.base (W.cl c) "__bool__" k (spD X.K W fx 1)) (hr : Room k X.A) (ha : PD X W a fa) (he : ∀ whole, isTrue a X.env whole = (do let v ← whole; standAt a.pos; holding [v] (truthy v)) := by intro _; rfl) : PDT X W a (tOwn c fx fa) := by
  obtain ⟨f, fd, ps, F, hm, hbd⟩ := F
  constructor
  intro pins s σ H Q I h
  refine isTrue_plain (thn (ha.run pins s σ H _ I (tOwn_of h)) ?_) (he _)
  rintro v s1 ⟨x, H1, I1, rx, q⟩
  exact truthy_own F hm hbd hr I1 rx q
/-- not a, as a value -/
def eNotT (t : TX) : EX := fun ρ => M.bind (t ρ) fun b => M.pure (.bl (!b))
theorem notT_of {t : TX} {σ : St} {H : Hp} {Q : VK} (h : tD X W (eNotT t) σ H Q) : tT X W t σ H fun b H' => Q (.bl (!b)) H' := by
  obtain ⟨fr, F, ρ, n, r, n', R, e, k⟩ := h
  rcases M.bind_any e with ⟨z, e1, rfl⟩ | ⟨b, n1, e1, h⟩
  · exact ⟨fr, F, ρ, n, .error z, n', R, e1, k⟩
  · obtain ⟨h1, h2⟩ := M.pure_any h
    subst h1 h2
    exact ⟨fr, F, ρ, n, .ok b, _, R, e1, fun F1 H1 R1 s1 => k F1 H1 _ R1 s1 (.bl _)⟩
theorem d_ownNot (F : CalM X.prog X.w X.K X.mg X.base (W.cl c) "__bool__" k (spD X.K W fx 1)) (hr : Room k X.A) (ha : PD X W a fa) : PD X W (.UnaryOp .Not a pos) (eNotT (tOwn c fx fa)) := by
  obtain ⟨f, fd, ps, F, hm, hbd⟩ := F
  constructor
  intro pins s σ H Q I h
  refine UnaryOp_ (thn (ha.run pins s σ H _ I (tOwn_of (notT_of h))) ?_)
  rintro v s1 ⟨x, H1, I1, rx, q⟩
  refine not_of (thn (truthy_own F hm hbd hr I1 rx q) ?_)
  rintro t s2 ⟨H2, I2, q2⟩
  exact ⟨.bl (!t), H2, I2, rfl, q2⟩
/-- e.f, a property -/
theorem d_prop {p g : Addr} {fd : FuncData} {ps : List Str} {f : Str} (cl : Cls X.K (W.cl c)) (hp : PropOf X.K (W.cl c) f p g) (F : FnOk X.prog X.w X.K X.mg X.base (L2.CX X.prog X.w) k g fd ps (spD X.K W fx 1)) (hr : Room (k + 1) X.A) (hb : Binds X.K fd ps []) (ha : PD X W a fa)
    (hab : attributeBase a f X.env (eval a X.env) = eval a X.env := by rfl) : PD X W (.Attribute a f pos) (e1M (mOwn1 c fx) fa) := imp_E (pe_prop (E := E0) (dvs := []) (ds := []) ha cl hp F hr hb .nil passN hab) fun σ H Q h => by
  obtain ⟨fr, F, ρ, n, r, n', R, e, k⟩ := own1_of h
  refine ⟨fr, F, ρ, n, r, n', R, e, ?_⟩
  cases r with
  | error z => exact k
  | ok d =>
    intro F1 H1 v R1 s1 d1
    obtain ⟨⟨p, dx, fs, rfl, q⟩, sp⟩ := k F1 H1 v R1 s1 d1
    exact ⟨p, dx, fs, rfl, q, sp⟩
end
end DL
end

section
set_option Elab.async false
set_option linter.all false
set_option autoImplicit false
set_option maxRecDepth 100000
set_option maxHeartbeats 1000000
namespace DL
open PySem PySem.Spec L2
/-! ### a != b by an own __eq__ -/
section
variable {X : Cx} {W : Wd} {c k : Nat} {pos : Pos} {a b : Expr} {fa fb : EX} {fx : FX}
def rOwnNe (K : PySem.W.Frag) (W : Wd) (c : Nat) (fx : FX) : R2 := fun x y H Q => (∃ p dx fs, x = .ref p ∧ H p = some (.ins (W.cl c) dx fs)) ∧ (∃ p dx fs, y = .ref p ∧ H p = some (.ins (W.cl c) dx fs)) ∧ spD K W fx 2 [x, y] H (fun w H' => ∃ t, w = .bl t ∧ Q (.bl (!t)) H') E0
def mOwnNe (c : Nat) (fx : FX) (x y : D) : M D := if isC c x && isC c y then M.bind (fx [x, y]) (fun d => M.opt ((dBool d).map fun t => .bl (!t))) else M.opt none
theorem q_ownNe {K : PySem.W.Frag} : Op2M K W (rOwnNe K W c fx) (mOwnNe c fx) := by
  intro fr F H σ ρ n n' x y d v u Q R dx dy h k
  unfold mOwnNe at h
  split at h
  · rename_i q
    rw [Bool.and_eq_true] at q
    obtain ⟨w, n1, h1, h2⟩ := M.bind_ok h
    obtain ⟨h3, h4⟩ := M.opt_ok h2
    subst h4
    refine ⟨isC_of R.core.sub dx q.1, isC_of R.core.sub dy q.2, spD_ok rfl R (.cons dx (.cons dy .nil)) h1 fun F1 H1 w1 R1 s1 d1 => ?_⟩
    cases w with
    | bl t => cases d1; cases h3; exact ⟨t, rfl, k F1 H1 _ R1 s1 (.bl _)⟩
    | _ => cases h3
  · cases (M.opt_ok h).1
/-- a method run within a built-in -/
theorem run_in1 {f : Addr} {fd : FuncData} {ps : List Str} {sp : Sp} {pins : List (Addr × Obj)} {σ : St} {H : Hp} {s : Shared} {Q : VK} {us : List Value} {vs : List V} {E' : Value → Shared → Prop} (F : FnOk X.prog X.w X.K X.mg X.base (L2.CX X.prog X.w) k f fd ps sp) (hr : Room (k + 1) X.A) (hb : Binds X.K fd ps [])
    (I : Inv X pins σ H s) (r : Vals vs us) (h : sp vs H Q E0) : wpAny (model X.prog X.w) X.A.in1 (call (.ref f) us) (EP X pins σ Q) E' s := by
  have hl : (us ++ []).length = ps.length := by rw [List.append_nil, ← r.length]; exact F.len _ _ _ _ h
  have b := hb s us I.kIn hl
  rw [List.append_nil] at b
  refine wpAny_call (codeAny_mono (F.run X.A.in1 X.stack s H ⟨us, []⟩ us vs Q E0 hr.in1 I.env0.in1 b r h) ?_)
  rintro (e | fl) s' hq
  · exact (passN (X := X) pins σ H s e s' I hq |> fun _ => by
      obtain ⟨_, _, _, _, _, _, _, _, _, _, _, _, z⟩ := hq
      exact z.elim)
  · cases fl with
    | ret u => exact I.after hq
    | next => exact hq.elim
    | brk => exact hq.elim
    | cont => exact hq.elim
theorem o_ownNe (hu : X.A.units + 1 < cLine) (F : CalM X.prog X.w X.K X.mg X.base (W.cl c) "__eq__" k (spD X.K W fx 2)) (hr : Room (k + 1) X.A) (hne : PySem.W.findIn X.K (.ref (W.cl c)) "__ne__" = some (some (.builtin "object.__ne__")))
    (hob : PySem.W.subIn X.K (.ref (W.cl c)) (.type "object") = some true) : OpR X (compareOp .NotEq) (rOwnNe X.K W c fx) := by
  obtain ⟨f, fd, ps, F, hm, hbd⟩ := F
  rintro pins s σ H x y v u Q I rx ry ⟨⟨p, dx, fs, rfl, hp⟩, ⟨q, dy, gs, rfl, hq⟩, sp⟩
  have ev : v = Value.ref p := rx
  have eu : u = Value.ref q := ry
  subst ev eu
  obtain ⟨mA, J, _⟩ := ins_get I.hok hp
  obtain ⟨mB, J', _⟩ := ins_get I.hok hq
  obtain ⟨od, J, _⟩ := J.look
  obtain ⟨od', J', _⟩ := J'.look
  have hu0 : X.A.units < cLine := Nat.lt_of_succ_lt hu
  show wpAny _ _ (richCompare .NotEq (.ref p) (.ref q)) _ _ _
  have S := PySem.F.cmp_object.ne
  have one : wpAny (model X.prog X.w) X.A (tryCompare (.ref p) "__ne__" (.ref q)) (fun r s' => ∃ v, r = some v ∧ EP X pins σ Q v s') X.xe s := by
    have fin : wpAny (model X.prog X.w) X.A (call (.builtin "object.__ne__") ([.ref p] ++ [.ref q]) >>= fun v => pure (some v)) (fun r s' => wpAny (model X.prog X.w) X.A (match r with | some .notImplemented | none => pure none | some v => pure (some v)) (fun r s' => ∃ v, r = some v ∧ EP X pins σ Q v s') X.xe s') X.xe s := by
      refine wpAny_bind (wpAny_call (codeAny_call_builtin S.plain PySem.F.cmpEntry_ne (PySem.W.check_slot PySem.F.cmpKind_ne PySem.F.cmpSplit_ne (J.type.andThen (PySem.W.looks_subIn I.kIn hob)) (PySem.F.cmpArgs_ne _ _) ?_)))
      unfold Builtin.«object.__ne__»
      have eqq := PySem.W.ifBound_K (M := model X.prog X.w) (A := X.A.in1) (args := [.ref q]) (Q := fun r s' => ∃ t, r = some (.bool t) ∧ EP X pins σ Q (.bool (!t)) s') I.kIn J hm.at_ hm.fn (wpAny_mono (run_in1 (us := [.ref p, .ref q]) (vs := [.ref p, .ref q]) (E' := fun e s' => wants (fun v s' => wpAny (model X.prog X.w) X.A (pure (some v)) (fun r s' => wpAny (model X.prog X.w) X.A (match r with | some .notImplemented | none => pure none | some v => pure (some v)) (fun r s' => ∃ v, r = some v ∧ EP X pins σ Q v s') X.xe s') X.xe s') X.xe (.error e) s') F hr hbd I (.cons rx (.cons ry .nil)) sp) (fun w s3 ⟨z, H3, I3, rz, t, ez, qz⟩ => by
        subst ez
        have ew : w = Value.bool t := rz
        subst ew
        exact ⟨t, rfl, .bl (!t), H3, I3, rfl, qz⟩) fun _ _ e => e)
      repeat (first | with_reducible refine wpAny_cRoomFor hu ?_ | with_reducible refine wpAny_bind (wpAny_mono eqq ?_ fun _ _ e => e) | wp_step)
      rintro _ s3 ⟨t, rfl, q⟩
      refine wpAny_bind (wpAny_truthy_bool ?_)
      refine wpAny_pure ?_
      refine wpAny_pure ?_
      exact wpAny_pure ⟨_, rfl, q⟩
    unfold tryCompare
    refine wpAny_bind ?_
    simp only [callSpecialIfBound?, bindSpecialIfBound?]
    refine wpAny_holding (wpAny_bind (wpAny_bind (wpAny_bind (J.type.here ((PySem.W.looks_findIn I.kIn hne).here ?_)))))
    simp only [S.bind]
    refine wpAny_bind (wpAny_askSetting (wpAny_ite ?_))
    split
    · exact wpAny_bind (wpAny_pure (wpAny_pure fin))
    · exact wpAny_tryCatch (wpAny_bind (wpAny_pure (wpAny_pure fin)))
  unfold richCompare
  simp only [oneThing_ref]
  refine wpAny_holding (wpAny_bind (wpAny_cRoomFor hu0 ?_))
  refine wpAny_bind (J.type.here (wpAny_bind (J'.type.here ?_)))
  rw [if_neg (by simp)]
  refine wpAny_bind (wpAny_pure ?_)
  simp only [Bool.false_eq_true, if_false]
  refine wpAny_bind (wpAny_mono one (fun r s' z => ?_) fun _ _ e => e)
  obtain ⟨v, rfl, hq⟩ := z
  exact wpAny_pure hq
theorem d_ownNe (hu : X.A.units + 1 < cLine) (F : CalM X.prog X.w X.K X.mg X.base (W.cl c) "__eq__" k (spD X.K W fx 2)) (hr : Room (k + 1) X.A) (hne : PySem.W.findIn X.K (.ref (W.cl c)) "__ne__" = some (some (.builtin "object.__ne__")))
    (hob : PySem.W.subIn X.K (.ref (W.cl c)) (.type "object") = some true) (ha : PD X W a fa) (hb : PD X W b fb) : PD X W (.Compare a [.NotEq] [b] pos) (e2M (mOwnNe c fx) fa fb) := d_cmpM (o_ownNe hu F hr hne hob) q_ownNe ha hb (nomark _)
theorem t_ownNe (hu : X.A.units + 1 < cLine) (F : CalM X.prog X.w X.K X.mg X.base (W.cl c) "__eq__" k (spD X.K W fx 2)) (hr : Room (k + 1) X.A) (hne : PySem.W.findIn X.K (.ref (W.cl c)) "__ne__" = some (some (.builtin "object.__ne__")))
    (hob : PySem.W.subIn X.K (.ref (W.cl c)) (.type "object") = some true) (ha : PD X W a fa) (hb : PD X W b fb) : PDT X W (.Compare a [.NotEq] [b] pos) (tB (e2M (mOwnNe c fx) fa fb)) := t_cmpM (o_ownNe hu F hr hne hob) q_ownNe ha hb (nomark _)
end
end DL
end

section
set_option Elab.async false
set_option linter.all false
set_option autoImplicit false
set_option maxRecDepth 100000
set_option maxHeartbeats 1000000
namespace DL
open PySem PySem.Spec L2 RZ
section
variable {X : Cx} {W : Wd} {pos : Pos} {a b : Expr} {fa fb : EX}
/-! ### zip of two lists, two tuples -/
def zipD (xs ys : List D) : List D := (xs.zip ys).map fun p => .tup [p.1, p.2]
def dZip : List D → Option (List D)
  | [.lst xs, .lst ys] => some (zipD xs ys)
  | [.tup xs, .tup ys] => some (zipD xs ys)
  | _ => none
def iZipD (f : EXs) : IX := fun ρ => M.bind (f ρ) fun ds => M.opt (dZip ds)
theorem zip_turn {K : PySem.W.Frag} {fr : Fr} {F H H' : Hp} {σ : St} {ρ : Env} {n : Int} {i T : Nat} {x y : V} {xs ys : List V} {ds es : List D} {d : D} (R : Rel K W fr F H σ ρ n) (hx : Dens K W fr.dr F xs ds) (hy : Dens K W fr.dr F ys es) (hd : (zipD ds es)[i]? = some d)
    (hT : H T = none) (hH : H' = upd H T (.tup [x, y])) (h1 : xs[i]? = some x) (h2 : ys[i]? = some y) : ∃ F', Rel K W fr F' H' σ ρ n ∧ Sub F F' ∧ Den K W fr.dr F' (.ref T) d := by
  subst hH
  unfold zipD at hd
  rw [List.getElem?_map] at hd
  obtain ⟨p, hp, e⟩ := Option.map_eq_some_iff.mp hd
  subst e
  obtain ⟨d1, e1, q1⟩ := hx.get' h1
  obtain ⟨d2, e2, q2⟩ := hy.get' h2
  have : p = (d1, d2) := by
    have := List.getElem?_zip_eq_some.mp hp
    rw [e1, e2] at this
    obtain ⟨a1, a2⟩ := this
    cases a1; cases a2; rfl
  subst this
  exact ⟨_, R.fresh hT, R.core.sub.new hT, Core.freshTup (H := H) (n := n) (.cons q1 (.cons q2 .nil)) (R.core.noF hT)⟩
theorem zip_len (ds es : List D) : (zipD ds es).length = min ds.length es.length := by simp [zipD]
theorem it_zipL {K : PySem.W.Frag} {dr : Option Addr} {F0 : Hp} {p q : Addr} {xs ys : List V} {ds es : List D} (h1 : F0 p = some (.lst xs)) (h2 : F0 q = some (.lst ys)) (d1 : Dens K W dr F0 xs ds) (d2 : Dens K W dr F0 ys es) : ItOk K W dr F0 (Itz K p q) (zipD ds es) := fun fr F H σ ρ n i edr R s => by
  subst edr
  have g1 : H p = some (.lst xs) := R.core.sub _ _ (s _ _ h1)
  have g2 : H q = some (.lst ys) := R.core.sub _ _ (s _ _ h2)
  refine ⟨fun d e => ?_, fun e => ⟨xs, ys, SqL.of g1, SqL.of g2, by rw [zip_len] at e; rw [d1.length, d2.length]; omega⟩⟩
  have hi := (List.getElem?_eq_some_iff.mp e).1
  rw [zip_len] at hi
  obtain ⟨x, ex⟩ : ∃ x, xs[i]? = some x := ⟨_, List.getElem?_eq_getElem (by rw [d1.length]; omega)⟩
  obtain ⟨y, ey⟩ : ∃ y, ys[i]? = some y := ⟨_, List.getElem?_eq_getElem (by rw [d2.length]; omega)⟩
  refine ⟨⟨xs, ys, x, y, SqL.of g1, SqL.of g2, ex, ey⟩, ?_⟩
  rintro v H' ⟨T, x', y', rfl, hT, hH, k1, k2⟩
  exact zip_turn R (d1.mono s fun _ z => z) (d2.mono s fun _ z => z) e hT hH (k1 _ (SqL.of g1)) (k2 _ (SqL.of g2))
theorem it_zipT {K : PySem.W.Frag} {dr : Option Addr} {F0 : Hp} {p q : Addr} {xs ys : List V} {ds es : List D} (h1 : SqT K F0 p xs) (h2 : SqT K F0 q ys) (d1 : Dens K W dr F0 xs ds) (d2 : Dens K W dr F0 ys es) : ItOk K W dr F0 (ItzT K p q) (zipD ds es) := fun fr F H σ ρ n i edr R s => by
  subst edr
  have g1 : SqT K H p xs := R.core.sub.sqT (s.sqT h1)
  have g2 : SqT K H q ys := R.core.sub.sqT (s.sqT h2)
  refine ⟨fun d e => ?_, fun e => ⟨xs, ys, g1, g2, by rw [zip_len] at e; rw [d1.length, d2.length]; omega⟩⟩
  have hi := (List.getElem?_eq_some_iff.mp e).1
  rw [zip_len] at hi
  obtain ⟨x, ex⟩ : ∃ x, xs[i]? = some x := ⟨_, List.getElem?_eq_getElem (by rw [d1.length]; omega)⟩
  obtain ⟨y, ey⟩ : ∃ y, ys[i]? = some y := ⟨_, List.getElem?_eq_getElem (by rw [d2.length]; omega)⟩
  refine ⟨⟨xs, ys, x, y, g1, g2, ex, ey⟩, ?_⟩
  rintro v H' ⟨T, x', y', rfl, hT, hH, k1, k2⟩
  exact zip_turn R (d1.mono s fun _ z => z) (d2.mono s fun _ z => z) e hT hH (k1 _ g1) (k2 _ g2)
theorem i_zip {e e2 : Expr} {f : EXs} {p tpos : Pos} {elts : List Expr} {kk : Nat} (hg : Gl X "zip") (hm : X.mg "zip" = none) (ha : PDs X W [e, e2] f) (hs : starEach [e, e2] X.env = (false, eval e X.env) :: starEach [e2] X.env := by rfl) (hpl : (backTo pos (starEach [e2] X.env)).any (·.1) = false := by rfl) :
    PDI X W (.Tuple elts kk tpos) (.Call (.Name "zip" p) [e, e2] [] pos) (iZipD f) := imp_I (pi_zipA hg hm ha hs hpl) fun σ H R ⟨fr, F, ρ, n, r, n', R0, ev, k⟩ => by
  rcases r with z | ds
  · exact R0.dsE1 ev k
  obtain ⟨x, n1, e1, h⟩ := M.bind_ok ev
  obtain ⟨h1, h2⟩ := M.opt_ok h
  subst h2
  refine ⟨fr, F, ρ, n, .ok x, _, R0, e1, fun F1 H1 vs R1 s1 d1 => ?_⟩
  unfold dZip at h1
  split at h1
  · cases h1
    cases d1 with
    | cons q1 d2 => cases d2 with
      | cons q2 d3 =>
        cases d3
        cases q1 with
        | lst a1 a2 => cases q2 with
          | lst b1 b2 => exact ⟨_, _, _, _, rfl, .inl ⟨SqL.of (R1.core.sub _ _ a1), SqL.of (R1.core.sub _ _ b1), k F1 H1 _ R1 s1 (it_zipL a1 b1 a2 b2)⟩⟩
  · cases h1
    cases d1 with
    | cons q1 d2 => cases d2 with
      | cons q2 d3 =>
        cases d3
        cases q1 with
        | tup a1 a2 => cases q2 with
          | tup b1 b2 => exact ⟨_, _, _, _, rfl, .inr ⟨R1.core.sub.sqT a1, R1.core.sub.sqT b1, k F1 H1 _ R1 s1 (it_zipT a1 b1 a2 b2)⟩⟩
  · cases h1
/-! ### x in a list, a tuple of flat items, a dict -/
def flatD : D → Bool
  | .non => true
  | .bl _ => true
  | .int _ => true
  | .str _ => true
  | _ => false
def eqF : D → D → Bool
  | .non, .non => true
  | .bl a, .bl b => a == b
  | .bl a, .int b => (if a then 1 else 0) == b
  | .int a, .bl b => a == (if b then 1 else 0)
  | .int a, .int b => a == b
  | .str a, .str b => a == b
  | _, _ => false
theorem flat_of {K : PySem.W.Frag} {dr : Option Addr} {F : Hp} {v : V} {d : D} (h : Den K W dr F v d) (e : flatD d = true) : flatV v = true := by
  cases h <;> first | rfl | cases e
theorem eqF_of {K : PySem.W.Frag} {dr : Option Addr} {F : Hp} {v u : V} {d e : D} (h : Den K W dr F v d) (h' : Den K W dr F u e) (f : flatD d = true) (g : flatD e = true) : eqV v u = eqF d e := by
  cases h <;> cases h' <;> first | rfl | cases f | cases g
theorem flats_of {K : PySem.W.Frag} {dr : Option Addr} {F : Hp} : ∀ {vs : List V} {ds : List D}, Dens K W dr F vs ds → ds.all flatD = true → vs.all flatV = true
  | _, _, .nil, _ => rfl
  | _, _, .cons h r, e => by
    rw [List.all_cons, Bool.and_eq_true] at e
    rw [List.all_cons, flat_of h e.1, flats_of r e.2]; rfl
theorem inV_of {K : PySem.W.Frag} {dr : Option Addr} {F : Hp} {v : V} {d : D} (h : Den K W dr F v d) (f : flatD d = true) : ∀ {vs : List V} {ds : List D}, Dens K W dr F vs ds → ds.all flatD = true → inV v vs = ds.any fun e => eqF e d
  | _, _, .nil, _ => rfl
  | _, _, .cons h1 r, e => by
    rw [List.all_cons, Bool.and_eq_true] at e
    have := inV_of h f r e.2
    unfold inV at this ⊢
    rw [List.any_cons, List.any_cons, this, eqF_of h1 h e.1 f]
def dInB (x y : D) : Option Bool := match y with
  | .lst ys => if flatD x && ys.all flatD then some (ys.any fun e => eqF e x) else none
  | .tup ys => if flatD x && ys.all flatD then some (ys.any fun e => eqF e x) else none
  | .dic ks vs => (match keyD x with
    | some k => some (valD ks vs k).isSome
    | none => none)
  | _ => none
def dIn (x y : D) : Option D := match dInB x y with | some t => some (.bl t) | none => none
def dNi (x y : D) : Option D := match dInB x y with | some t => some (.bl (!t)) | none => none
def rDinG (g : Bool → Bool) : R2 := fun y x H Q => ∃ a o, x = .ref a ∧ DGet H a y o ∧ Q (.bl (g o.isSome)) H
theorem o_din (hu : X.A.units + 1 < cLine) : OpR X (compareOp .In) (rDinG fun t => t) := by
  rintro pins s σ H x y v u Q I rx ry ⟨p, o, rfl, g, q⟩
  have eu : u = Value.ref p := ry
  subst eu
  exact d_in hu I g rx fun s3 I3 => ⟨.bl o.isSome, H, I3, rfl, q⟩
theorem o_dni (hu : X.A.units + 1 < cLine) : OpR X (compareOp .NotIn) (rDinG fun t => !t) := by
  rintro pins s σ H x y v u Q I rx ry ⟨p, o, rfl, g, q⟩
  have eu : u = Value.ref p := ry
  subst eu
  exact d_notIn hu I g rx fun s3 I3 => ⟨.bl (!o.isSome), H, I3, rfl, q⟩
theorem valD_some {κ : Type} [DecidableEq κ] {K : PySem.W.Frag} {dr : Option Addr} {F : Hp} {k : κ} : ∀ {ks : List κ} {vs : List V} {ds : List D}, ks.length = vs.length → Dens K W dr F vs ds → (valV (ks.zip vs) k).isSome = (valD ks ds k).isSome
  | [], _, _, _, _ => by simp [valV, valD]
  | x :: xs, [], _, l, _ => by cases l
  | x :: xs, v :: vs, _, l, .cons h1 h2 => by
    rw [List.zip_cons_cons]
    unfold valD
    by_cases q : x = k
    · rw [if_pos q, valV_pos q]
      rfl
    · rw [if_neg q, valV_neg q]
      exact valD_some (ks := xs) (by simpa using l) h2
def rInA (K : PySem.W.Frag) (neg : Bool) : R2 := fun x y H Q => rIn K neg x y H Q ∨ rDinG (fun t => if neg then !t else t) x y H Q
theorem o_in (hu : X.A.units + 1 < cLine) : OpR X (compareOp .In) (rInA X.K false) := op_in_seq.or (o_din hu)
theorem o_ni (hu : X.A.units + 1 < cLine) : OpR X (compareOp .NotIn) (rInA X.K true) := op_notIn_seq.or (o_dni hu)
theorem q_inA {K : PySem.W.Frag} {fr : Fr} {F H : Hp} {σ : St} {ρ : Env} {n : Int} {x y : D} {t : Bool} {v u : V} {Q : VK} {neg : Bool} (R : Rel K W fr F H σ ρ n) (dx : Den K W fr.dr F v x) (dy : Den K W fr.dr F u y) (h : dInB x y = some t) (k : Q (.bl (if neg then !t else t)) H) : rInA K neg v u H Q := by
  unfold dInB at h
  split at h
  · split at h
    · rename_i q
      rw [Bool.and_eq_true] at q
      cases h
      cases dy with
      | lst h1 h2 => exact .inl ⟨_, _, rfl, .inl (SqL.of (R.core.sub _ _ h1)), flat_of dx q.1, flats_of h2 q.2, by rw [inV_of dx q.1 h2 q.2]; exact k⟩
    · cases h
  · split at h
    · rename_i q
      rw [Bool.and_eq_true] at q
      cases h
      cases dy with
      | tup h1 h2 => exact .inl ⟨_, _, rfl, .inr (R.core.sub.sqT h1), flat_of dx q.1, flats_of h2 q.2, by rw [inV_of dx q.1 h2 q.2]; exact k⟩
    · cases h
  · split at h
    · rename_i ks vs key q
      cases h
      cases dy with
      | dic l h1 h2 =>
        refine .inr ⟨_, _, rfl, .inl ⟨_, key, R.core.sub.rd h1, key_of dx q, rfl⟩, ?_⟩
        rw [valD_some l h2]
        exact k
    · cases h
  · cases h
theorem q_in {K : PySem.W.Frag} : Op2 K W (rInA K false) dIn := by
  intro fr F H σ ρ n x y d v u Q R dx dy h k
  unfold dIn at h
  split at h
  · cases h
    exact q_inA R dx dy ‹_› (k F H _ R (Sub.refl _) (.bl _))
  · cases h
theorem q_ni {K : PySem.W.Frag} : Op2 K W (rInA K true) dNi := by
  intro fr F H σ ρ n x y d v u Q R dx dy h k
  unfold dNi at h
  split at h
  · cases h
    exact q_inA R dx dy ‹_› (k F H _ R (Sub.refl _) (.bl _))
  · cases h
theorem d_in (hu : X.A.units + 1 < cLine) (ha : PD X W a fa) (hb : PD X W b fb) (hm : behindInMarks .In b = false := by with_unfolding_all rfl) : PD X W (.Compare a [.In] [b] pos) (e2 dIn fa fb) := d_cmp (o_in hu) q_in ha hb hm
theorem d_ni (hu : X.A.units + 1 < cLine) (ha : PD X W a fa) (hb : PD X W b fb) (hm : behindInMarks .NotIn b = false := by with_unfolding_all rfl) : PD X W (.Compare a [.NotIn] [b] pos) (e2 dNi fa fb) := d_cmp (o_ni hu) q_ni ha hb hm
theorem t_in (hu : X.A.units + 1 < cLine) (ha : PD X W a fa) (hb : PD X W b fb) (hm : behindInMarks .In b = false := by with_unfolding_all rfl) : PDT X W (.Compare a [.In] [b] pos) (tB (e2 dIn fa fb)) := t_cmp (o_in hu) q_in ha hb hm
theorem t_ni (hu : X.A.units + 1 < cLine) (ha : PD X W a fa) (hb : PD X W b fb) (hm : behindInMarks .NotIn b = false := by with_unfolding_all rfl) : PDT X W (.Compare a [.NotIn] [b] pos) (tB (e2 dNi fa fb)) := t_cmp (o_ni hu) q_ni ha hb hm
/-! ### isinstance of an instance -/
def dIsO (m : Nat → Option Bool) : D → Option D
  | .obj c _ _ => (m c).map .bl
  | _ => none
/-- what isinstance asks of an instance's class -/
structure InsC (K : PySem.W.Frag) (C : Addr) : Prop where
  cl : Cls K C
  ha : PySem.W.findIn K (.ref C) "__class__" = some (some (.builtin "object.__class__"))
  hn : PySem.W.specialIn K (.builtin "object.__class__") "__get__" = some (some (.builtin "getset_descriptor.__get__"))
  ht : PySem.W.takesIn K (.builtin "object.__class__") = some true
  hm : PySem.W.mroIn K C (.type "object") = some true
theorem d_isO {m : Nat → Option Bool} {Cn : Str} {Cv : Addr} {p tp : Pos} {e : Expr} {f : EX} (hg : Gl X "isinstance") (hm : X.mg "isinstance" = none) (hgC : Gl X Cn) (hmC : X.mg Cn = some (.ref Cv)) (hI : ∀ c t, m c = some t → InsC X.K (W.cl c) ∧ PySem.W.kitOne X.K (.ref (W.cl c)) (.ref Cv) = some t) (ha : PD X W e f) (hd : (Cn == ("__debug__" : Str)) = false := by decide)
    (he : starEach [e, .Name Cn tp] X.env = (false, eval e X.env) :: starEach [.Name Cn tp] X.env := by rfl) (he2 : starEach [.Name Cn tp] X.env = (false, eval (.Name Cn tp) X.env) :: starEach [] X.env := by rfl) (hpl : (backTo pos (starEach [.Name Cn tp] X.env)).any (·.1) = false := by rfl) :
    PD X W (.Call (.Name "isinstance" p) [e, .Name Cn tp] [] pos) (e1 (dIsO m) f) :=
  imp_E (pe_callB call_isi hg hm rfl (pa_cons ha (pa_cons (pe_glob (v := .ref Cv) hgC hmC rfl hd) pa_nil he2) he) (by decide) (by decide) he hpl) fun σ H Q ⟨fr, F, ρ, n, r, n', R, ev, k⟩ => by
    rcases r with z | d
    · exact R.dE1 ev k
    obtain ⟨y, n1, h1, h2⟩ := M.bind_ok ev
    obtain ⟨h3, h4⟩ := M.opt_ok h2
    subst h4
    unfold dIsO at h3
    split at h3
    · rename_i c ks vs
      obtain ⟨t, h5, h6⟩ := Option.map_eq_some_iff.mp h3
      subst h6
      obtain ⟨I, kk⟩ := hI c t h5
      refine ⟨fr, F, ρ, n, .ok _, _, R, h1, fun F1 H1 v R1 s1 d1 => ?_⟩
      cases d1 with
      | obj l hF hd => exact ⟨_, .ref Cv, _, _, t, rfl, .own Cv, .base (.ins (R1.core.sub _ _ hF) I.cl I.ha I.hn I.ht I.hm), kk, k F1 H1 _ R1 s1 (.bl _)⟩
    · cases h3
end
end DL
end

section
set_option Elab.async false
set_option linter.all false
set_option autoImplicit false
set_option maxRecDepth 100000
set_option maxHeartbeats 1000000
namespace DL
open PySem PySem.Spec L2
section
variable {X : Cx} {W : Wd} {pos : Pos}
/-! ### {k: v for ..} -/
def dcompD (body : D → M (Option (Key × D))) : List D → List Key → List D → M (List Key × List D)
  | [], ks, vs => M.pure (ks, vs)
  | d :: ds, ks, vs => M.bind (body d) fun y => match y with
    | some p => if ks.length < sizeLine then dcompD body ds (dkKs ks p.1) (dkDs ks vs p.1 p.2) else M.opt none
    | none => dcompD body ds ks vs
def dcompB (vs : List Nat) (g : GX) (t : TX) (fk fv : EX) (ρ : Env) (d : D) : M (Option (Key × D)) := M.bind (M.opt (g d (hide (wipeD ρ vs)))) fun ρ1 => M.bind (t ρ1) fun b => match b with
  | true => M.bind (fk ρ1) fun y => M.bind (M.opt (keyD y)) fun k => M.bind (fv ρ1) fun z => M.pure (some (k, z))
  | false => M.pure none
def eDComp (vs : List Nat) (g : GX) (it : IX) (t : TX) (fk fv : EX) : EX := fun ρ => M.bind (it ρ) fun ds => M.bind (M.calm (dcompD (dcompB vs g t fk fv ρ) ds [] [])) fun r => M.pure (.dic r.1 r.2)
theorem d_tDc {vs : List Nat} {tg : TG} {g : GX} {is : List Nat} {it : IX} {t : TX} {fk fv : EX} (hg : GOk X.K W tg g is) (hv : ∀ i ∈ is, i ∈ vs) {σ : St} {H : Hp} {Q : VK} (h : tD X W (eDComp vs g it t fk fv) σ H Q) : tDc (tI X W it) tg (tTk X.K W t) (tDk X.K W fk) (tDk X.K W fv) vs σ H Q := by
  obtain ⟨fr, F, ρ, n, r, n', R, e, k⟩ := h
  rcases M.bind_any e with ⟨z, e1, rfl⟩ | ⟨ds, n1, e1, h⟩
  · exact ⟨fr, F, ρ, n, .error z, n', R, e1, k⟩
  rcases M.bind_any h with ⟨z, e1, rfl⟩ | ⟨⟨zk, zv⟩, n2, e2, h2⟩
  · exact (M.calm_err e1).elim
  replace e2 := M.calm_ok e2
  obtain ⟨q1, q2⟩ := M.pure_any h2
  subst q1 q2
  clear h h2
  refine ⟨fr, F, ρ, n, .ok ds, n1, R, e1, fun F1 H1 J R1 s1 ok => fun p hp => ?_⟩
  refine ⟨fun i m H' => m = ds.length - i ∧ i ≤ ds.length ∧ ∃ F' n'' ks us dv, Rel X.K W fr F' H' σ ρ n'' ∧ Sub F1 F' ∧ F' p = none ∧ ks.length = us.length ∧ H' p = some (.dK (ks.zip us)) ∧ Dens X.K W fr.dr F' us dv ∧ dcompD (dcompB vs g t fk fv ρ) (ds.drop i) ks dv n'' = some (.ok (zk, zv), _),
    ⟨ds.length, by simp, Nat.zero_le _, F1, n1, [], [], [], ?_, Sub.refl _, R1.core.noF hp, rfl, upd_same, .nil, e2⟩, ?_⟩
  · exact R1.other (R1.core.noF hp) (R1.core.noH0 hp) (R1.core.ndr hp) (R1.noOwn hp) (sd_no hp)
  have hH0 := R1.core.noH0 hp
  have hdr := R1.core.ndr hp
  have hno := R1.noOwn hp
  rintro i m H2 ⟨rfl, hi, F2, m2, ks, us, dv, R2, s2, f2, l2, a2, d2, c2⟩
  have RI : Rel X.K W (fr.at F2 H2) F2 H2 (wipe σ vs) (hide (wipeD ρ vs)) m2 := (R2.wipe vs).inner
  by_cases hlt : i < ds.length
  · refine .inr ?_
    rw [List.drop_eq_getElem_cons hlt] at c2
    obtain ⟨y, n3, c3, hc⟩ := M.bind_ok c2
    obtain ⟨ρ1, n5, b1, hb1⟩ := M.bind_ok c3
    obtain ⟨b2, b3⟩ := M.opt_ok b1
    obtain ⟨b, n6, b4, hb2⟩ := M.bind_ok hb1
    clear hb1 b1 c3
    subst b3
    obtain ⟨g1, g2⟩ := (ok (fr.at F2 H2) F2 H2 _ _ _ i rfl RI s2).1 ds[i] (by simp [hlt])
    refine ⟨g1, fun H' => ∃ F' n'' ks us dv, Rel X.K W fr F' H' σ ρ n'' ∧ Sub F1 F' ∧ F' p = none ∧ ks.length = us.length ∧ H' p = some (.dK (ks.zip us)) ∧ Dens X.K W fr.dr F' us dv ∧ dcompD (dcompB vs g t fk fv ρ) (ds.drop (i + 1)) ks dv n'' = some (.ok (zk, zv), _), fun H' q => ⟨_, by omega, rfl, hlt, q⟩, fun x H' yl => ?_⟩
    obtain ⟨F3, R3, s3, d3⟩ := g2 x H' yl
    refine hg (fr.at F2 H2) F3 H' _ _ ρ1 _ x _ _ R3 d3 b2 fun σ3 R4 w4 => ⟨(w4 vs hv).trans (wipe_wipe σ vs), ?_⟩
    refine ⟨fr.at F2 H2, F3, ρ1, _, b, n6, R4, b4, fun F5 H5 R5 s5 => ?_⟩
    cases b with
    | true =>
      rw [if_pos rfl]
      obtain ⟨yk, n7, b5, hb3⟩ := M.bind_ok hb2
      obtain ⟨kk, n8, b6, hb4⟩ := M.bind_ok hb3
      obtain ⟨b7, b8⟩ := M.opt_ok b6
      obtain ⟨z, n9, b9, hb5⟩ := M.bind_ok hb4
      obtain ⟨b10, b11⟩ := M.pure_ok hb5
      clear hb2 hb3 hb4 hb5 b6
      subst b8 b10 b11
      refine ⟨fr.at F2 H2, F5, ρ1, n6, yk, _, R5, b5, fun F6 H6 v R6 s6 d6 => ⟨fr.at F2 H2, F6, ρ1, _, z, _, R6, b9, fun F7 H7 u R7 s7 d7 => ?_⟩⟩
      have hc : (if ks.length < sizeLine then dcompD (dcompB vs g t fk fv ρ) (ds.drop (i + 1)) (dkKs ks kk) (dkDs ks dv kk z) else M.opt none) n3 = _ := hc
      split at hc
      · rename_i hz
        have a7 : H7 p = some (.dK (ks.zip us)) := R7.core.base p _ (mask_of a2) hdr fun z => z
        have f7 : F7 p = none := R7.core.new p _ (mask_of a2) f2
        have s27 : Sub F2 F7 := R7.core.f0
        have hk := key_of d6 b7
        subst hk
        refine ⟨_, kk, rfl, a7, by rw [List.length_zip, l2, Nat.min_self, ← l2]; exact hz, F7, _, dkKs ks kk, dkDs ks us kk u, dkDs ks dv kk z, ?_, s2.trans s27, f7, put_len l2, ?_, dkDs_dens d7 (d2.mono s27 fun _ z => z), hc⟩
        · exact (R2.back R7.core).other f7 hH0 hdr hno (sd_of a7)
        · rw [upd_same, put_zip l2]
      · cases (M.opt_ok hc).1
    | false =>
      rw [if_neg Bool.false_ne_true]
      obtain ⟨b6, b7⟩ := M.pure_ok hb2
      clear hb2
      subst b6 b7
      have a6 : H5 p = some (.dK (ks.zip us)) := R5.core.base p _ (mask_of a2) hdr fun z => z
      have f6 : F5 p = none := R5.core.new p _ (mask_of a2) f2
      have s26 : Sub F2 F5 := R5.core.f0
      exact ⟨F5, _, ks, us, dv, R2.back R5.core, s2.trans s26, f6, l2, a6, d2.mono s26 fun _ z => z, hc⟩
  · have ei : i = ds.length := by omega
    refine .inl ⟨(ok (fr.at F2 H2) F2 H2 _ _ _ i rfl RI s2).2 ei, ?_⟩
    rw [ei, List.drop_length] at c2
    obtain ⟨a1, a3⟩ := M.pure_ok c2
    cases a1
    subst a3
    obtain ⟨u1, R7⟩ := R2.addF a2 f2 hH0 hdr hno
    exact k _ H2 _ R7 ((s1.trans s2).trans u1) (.dic l2 (.inl upd_same) (d2.mono u1 fun _ z => z))
theorem d_dcomp {vs : List Nat} {kx vx tg iter : Expr} {ifs : List Expr} {scope : Scope} {own : List (Str × Nat)} {t : TG} {g : GX} {is : List Nat} {it : IX} {tt : TX} {fk fv : EX} (hc : X.calm = true) (hN : X.N.Nodup) (hi : PDI X W tg iter it) (ok : BlkOk X.N X.env.scope scope own)
    (hg : ∀ (s : Shared) (H : Hp) (C : Addr) (cl : List (Str × Addr)) (fp : List Addr), PG (X.blk s H scope (compEnvC scope cl C X.env) fp) tg t) (hq : GOk X.K W t g is) (hv : ∀ i ∈ is, i ∈ vs)
    (ht : ∀ (s : Shared) (H : Hp) (C : Addr) (cl : List (Str × Addr)) (fp : List Addr), PTs (X.blk s H scope (compEnvC scope cl C X.env) fp) ifs (tT (X.blk s H scope (compEnvC scope cl C X.env) fp) W tt))
    (hk : ∀ (s : Shared) (H : Hp) (C : Addr) (cl : List (Str × Addr)) (fp : List Addr), PD (X.blk s H scope (compEnvC scope cl C X.env) fp) W kx fk)
    (he : ∀ (s : Shared) (H : Hp) (C : Addr) (cl : List (Str × Addr)) (fp : List Addr), PD (X.blk s H scope (compEnvC scope cl C X.env) fp) W vx fv) (hs : ∀ x, foldedSetIterable iter X.env x = pure x := by intro _; rfl) (hvs : own.map (·.2) = vs := by rfl) :
    PD X W (.DictComp kx vx [⟨tg, iter, ifs, 0⟩] scope pos) (eDComp vs g it tt fk fv) := by
  subst hvs
  exact imp_E (pe_dc (tt := tTk X.K W tt) (tk := tDk X.K W fk) (tv := tDk X.K W fv) hc hN hi ok hg (fun s H C cl fp => tsk (ht s H C cl fp)) (fun s H C cl fp => dk (hk s H C cl fp)) (fun s H C cl fp => dk (he s H C cl fp)) hs) fun _ _ _ h => d_tDc hq hv h
/-! ### self.a, self.b, .. = e -/
def gAttr (K : PySem.W.Frag) (i : Nat) (C : Addr) (f : Str) : TG := fun v σ H Q => ∃ a dx fs, σ[i]? = some (some (.ref a)) ∧ H a = some (.ins C dx fs) ∧ fs.length < 1000 ∧ Q σ (upd H a (.ins C dx (putF f v fs)))
theorem pg_attr {i : Nat} {C : Addr} {o : Expr} {f : Str} {tpos : Pos} (cl : Cls X.K C) (na : NoAttr X.K C f) (ho : PE X o (tVar i)) : PG X (.Attribute o f tpos) (gAttr X.K i C f) := by
  constructor
  rintro pins s σ H v u Q I r ⟨a, dx, fs, h1, h2, h3, q⟩
  rw [arm_assign_Attribute]
  refine wpAny_bind (wpAny_holding (thn (ho.run pins s σ H (fun x H' => x = .ref a ∧ H' = H) I ⟨_, h1, rfl, rfl⟩) ?_))
  rintro ov s1 ⟨x, H1, I1, rx, rfl, rfl⟩
  have eo : ov = Value.ref a := rx
  subst eo
  refine wpAny_bind (wpAny_standAt (wpAny_bind (wpAny_holding (setattr_ok I1 h2 cl na h3 r fun s3 I3 => ?_))))
  exact wpAny_release ⟨σ, _, I3, q⟩
def uFlds (c : Nat) : List Str → List D → D → Option D
  | [], [], o => some o
  | f :: fs, d :: ds, o => (uFld c f d o).bind (uFlds c fs ds)
  | _, _, _ => none
def gAttrs (K : PySem.W.Frag) (i : Nat) (C : Addr) : List Str → TGs
  | [] => gNil
  | f :: fs => gCons (gAttr K i C f) (gAttrs K i C fs)
theorem attrs_ok {i c : Nat} {fr : Fr} {F : Hp} {σ : St} {n : Int} {Q : St → Hp → Prop} : ∀ {fs : List Str} {ds : List D} {vs : List V} {o o' : D} {ρ : Env} {H : Hp}, Rel X.K W fr F H σ ρ n → ρ[i]? = some (.own o) → Dens X.K W fr.dr F vs ds → uFlds c fs ds o = some o' →
    (∀ H', Rel X.K W fr F H' σ (ρ.set i (.own o')) n → Q σ H') → gAttrs X.K i (W.cl c) fs vs σ H Q
  | [], [], _, o, o', ρ, H, R, hi, .nil, e, k => by
    unfold uFlds at e
    cases e
    refine ⟨rfl, k H ?_⟩
    have : ρ.set i (.own o) = ρ := by
      apply List.ext_getElem?
      intro j
      by_cases hj : i = j
      · subst hj
        rw [get_set_self (List.getElem?_eq_some_iff.mp hi).1, hi]
      · rw [List.getElem?_set_ne hj]
    rw [this]; exact R
  | [], _ :: _, _, _, _, _, _, _, _, _, e, _ => by cases e
  | _ :: _, [], _, _, _, _, _, _, _, _, e, _ => by cases e
  | f :: fs, d :: ds, _, o, o', ρ, H, R, hi, .cons h1 h2, e, k => by
    unfold uFlds at e
    obtain ⟨o1, e1, e2⟩ := Option.bind_eq_some_iff.mp e
    unfold uFld at e1
    split at e1
    · split at e1
      · rename_i c' ks us q
        obtain ⟨q1, q2, q3⟩ := q
        subst q1
        cases e1
        obtain ⟨ad, s⟩ := R.slots
        obtain ⟨a1, a2, a3, a4, ⟨dx, ws, l, a5, a6⟩, a7⟩ := s.own i _ hi
        have m' : MDen X.K W fr.dr F (upd H (ad i) (.ins (W.cl c') dx (putF f _ (ks.zip ws)))) (ad i) (.obj c' (putKs f ks) (putVs f d ks us)) :=
          ⟨dx, _, putKs_length f _ l, by rw [upd_same, putF_zip f _ l], a6.putVs f h1 l⟩
        refine ⟨_, _, rfl, ad i, dx, _, a1, a5, by rw [List.length_zip, l, Nat.min_self, ← l]; exact q2, ?_⟩
        refine attrs_ok (R.change s hi m' rfl) (by rw [get_set_self (List.getElem?_eq_some_iff.mp hi).1]) h2 e2 fun H' R' => k H' ?_
        rw [List.set_set] at R'
        exact R'
      · cases e1
    · cases e1
def sFlds (i c : Nat) (fs : List Str) (fx : EX) : SX := fun ρ => M.bind (fx ρ) fun d => match d with
  | .tup ds => M.bind (M.opt ((own? ρ i).bind (uFlds c fs ds))) fun o => M.pure (.nx (ρ.set i (.own o)))
  | _ => M.opt none
theorem uFlds_len {c : Nat} : ∀ {fs : List Str} {ds : List D} {o o' : D}, uFlds c fs ds o = some o' → ds.length = fs.length
  | [], [], _, _, _ => rfl
  | [], _ :: _, _, _, e => by cases e
  | _ :: _, [], _, _, e => by cases e
  | f :: fs, d :: ds, o, o', e => by
    unfold uFlds at e
    obtain ⟨o1, e1, e2⟩ := Option.bind_eq_some_iff.mp e
    simp [uFlds_len e2]
theorem S_flds {i c m : Nat} {fs : List Str} {fx : EX} {tg value : Expr} {pos : Pos} (hv : PD X W value fx) (hg : PG X tg (gTup X.K m (gAttrs X.K i (W.cl c) fs))) (hm : fs.length = m) (hs : swapsWithSole [tg] value pos.line X.env = pure false := by rfl) (hw : swappedStores [tg] value X.env = pure none := by rfl)
    (h1 : (assignEach [tg] X.env).map (·.2) = [assign tg X.env] := by rfl) : PDS X W (.Assign [tg] value pos) (sFlds i c fs fx) := imp_S (ps_asg hv hg hs hw h1) fun E σ H ⟨fr, F, ρ, n, r, n', R, e, k⟩ => by
  rcases M.bind_any e with ⟨z, e1, rfl⟩ | ⟨d, n1, e1, h⟩
  · exact ⟨fr, F, ρ, n, .error z, n', R, e1, KS.x k⟩
  refine ⟨fr, F, ρ, n, .ok d, n1, R, e1, fun F1 H1 v R1 s1 d1 => ?_⟩
  split at h
  · rcases M.bind_any h with ⟨z, e1, rfl⟩ | ⟨o, n2, e2, h2⟩
    · exact (M.opt_err e1).elim
    obtain ⟨e3, e4⟩ := M.opt_ok e2
    subst e4
    obtain ⟨q1, q2⟩ := M.pure_any h2
    subst q1 q2
    obtain ⟨o0, q0, q1⟩ := Option.bind_eq_some_iff.mp e3
    cases d1 with
    | tup a1 a2 =>
      refine ⟨_, _, rfl, R1.core.sub.sqT a1, by rw [a2.length, uFlds_len q1]; exact hm, ?_⟩
      exact attrs_ok R1 (own_some q0) a2 q1 fun H' R' => k F1 H' σ R' s1
  · obtain ⟨_, q⟩ := M.opt_any h
    cases q
/-! ### a new list for oneself -/
def tDN (X : Cx) (W : Wd) (f : EXs) : TE := fun σ H Q => ∃ fr F ρ n r n', Rel X.K W fr F H σ ρ n ∧ f ρ n = some (r, n') ∧
  Res (fun ds => ∀ F' H' vs, Rel X.K W fr F' H' σ ρ n' → Sub F F' → Dens X.K W fr.dr F' vs ds → ∀ p, H' p = none → Q (.ref p) (upd H' p (.lst vs))) (KX X W fr F σ ρ n') r
/-- a[lo:hi] of a list -/
def nCut (f : EX) (lo hi : EO) : EXs := fun ρ => M.bind (f ρ) fun x => M.bind (lo ρ) fun l => M.bind (hi ρ) fun h => M.opt (match x with | .lst xs => some (cutD xs l h) | _ => none)
theorem n_cut {a : Expr} {lo hi : Option Expr} {f : EX} {l h : EO} {p2 : Pos} (ha : PD X W a f) (hl : PO X lo (tOD X W l)) (hh : PO X hi (tOD X W h)) : PE X (.Subscript a (.Slice lo hi none p2) pos) (tDN X W (nCut f l h)) := imp_E (pe_slice sl_list ha hl hh) fun σ H Q ⟨fr, F, ρ, n, r, n', R, e, k⟩ => by
  rcases M.bind_any e with ⟨z, e1, rfl⟩ | ⟨x, n1, e1, h⟩
  · exact ⟨fr, F, ρ, n, .error z, n', R, e1, k⟩
  refine ⟨fr, F, ρ, n, .ok x, n1, R, e1, fun F1 H1 v R1 s1 d1 => ?_⟩
  rcases M.bind_any h with ⟨z, e2, rfl⟩ | ⟨l', n2, e2, h⟩
  · exact ⟨fr, F1, ρ, n1, .error z, n', R1, e2, KX.mono k s1⟩
  refine ⟨fr, F1, ρ, n1, .ok l', n2, R1, e2, fun F2 H2 R2 s2 => ?_⟩
  rcases M.bind_any h with ⟨z, e3, rfl⟩ | ⟨u', n3, e3, h⟩
  · exact ⟨fr, F2, ρ, n2, .error z, n', R2, e3, KX.mono (KX.mono k s1) s2⟩
  refine ⟨fr, F2, ρ, n2, .ok u', n3, R2, e3, fun F3 H3 R3 s3 => ?_⟩
  rcases r with z | ds
  · exact (M.opt_err h).elim
  obtain ⟨e4, e5⟩ := M.opt_ok h
  subst e5
  have d3 := d1.mono (dr' := fr.dr) (s2.trans s3) fun _ z => z
  split at e4
  · cases e4
    cases d3 with
    | lst h1 h2 => exact ⟨_, _, rfl, SqL.of (R3.core.sub _ _ h1), fun p hp => k F3 H3 _ R3 ((s1.trans s2).trans s3) (h2.cut _ _) p hp⟩
  · cases e4
/-- [a, b, ..] -/
def nLst (f : EXs) : EXs := fun ρ => M.bind (f ρ) fun ds => M.opt (if gz ds then some ds else none)
theorem n_lst {es : List Expr} {f : EXs} (h : PDs X W es f) : PE X (.List es pos) (tDN X W (nLst f)) := imp_E (pe_lst h) fun σ H Q ⟨fr, F, ρ, n, r, n', R, e, k⟩ => by
  rcases M.bind_any e with ⟨z, e1, rfl⟩ | ⟨ds, n1, e1, h⟩
  · exact ⟨fr, F, ρ, n, .error z, n', R, e1, k⟩
  rcases r with z | d
  · exact (M.opt_err h).elim
  obtain ⟨h2, h3⟩ := M.opt_ok h
  subst h3
  split at h2
  · rename_i q
    cases h2
    exact ⟨fr, F, ρ, n, .ok ds, _, R, e1, fun F1 H1 vs R1 s1 d1 => ⟨by rw [d1.length]; exact of_decide_eq_true q, fun p hp => k F1 H1 vs R1 s1 d1 p hp⟩⟩
  · cases h2
def sOwnN (i : Nat) (f : EXs) : SX := fun ρ => M.bind (f ρ) fun ds => M.pure (.nx (ρ.set i (.own (.lst ds))))
theorem S_ownN {i : Nat} {y : Str} {px pos : Pos} {e : Expr} {f : EXs} (hN : X.N.Nodup) (hi : X.N[i]? = some y) (hx : Loc X.env.scope y) (he : PE X e (tDN X W f)) (hs : swapsWith e (some (.Name y px)) pos.line X.env = pure false := by rfl) (hf : X.fn y = true ∨ X.env.scope.names.lookup y = some .local := by first | exact .inl rfl | exact .inr rfl | assumption) :
    PDS X W (.Assign [.Name y px] e pos) (sOwnN i f) := imp_S (ps_set hN hi hx he hs hf) fun E σ H ⟨fr, F, ρ, n, r, n', R, e, k⟩ => by
  rcases M.bind_any e with ⟨z, e1, rfl⟩ | ⟨ds, n1, e1, h⟩
  · exact ⟨fr, F, ρ, n, .error z, n', R, e1, KS.x k⟩
  obtain ⟨q1, q2⟩ := M.pure_any h
  subst q1 q2
  exact ⟨fr, F, ρ, n, .ok ds, _, R, e1, fun F1 H1 vs R1 s1 d1 p hp => k F1 _ _ (R1.setOwn hp rfl ⟨vs, upd_same, d1⟩) s1⟩
end
end DL
end

section
set_option Elab.async false
set_option linter.all false
set_option autoImplicit false
set_option maxRecDepth 100000
set_option maxHeartbeats 1000000
namespace DL
open PySem PySem.Spec L2
/-! ### bool(x) -/
theorem bool_truthy {prog : Program} {w : World} (x : Value) : PySem.MeetsIn prog w (Builtin.«bool.__new__» ⟨[.type "bool", x], []⟩) (fun A R s => ∀ k, wpAny (model prog w) A.in1 (truthy x) (fun b s' => ∀ j, R (.ok (.ret (.bool b))) { s' with toks := s'.toks + j }) (fun e s' => R (.error e) s') { s with toks := s.toks + k }) :=
  .of_wp fun A R s h => by
    obtain ⟨hp, g, d, tk, os⟩ := s
    have f1 := F.conv_sub_bool
    have h0 : wpAny (model prog w) A.in1 (truthy x) (fun b s' => ∀ j, R (.ok (.ret (.bool b))) { s' with toks := s'.toks + j }) (fun e s' => R (.error e) s') ⟨hp, g, d, tk, os⟩ := h 0
    repeat (first | (with_reducible refine wpAny_bind (wpAny_mono h0 ?_ fun _ _ e => e)) | wp_step)
    rintro b s' q
    exact wpAny_pure ⟨_, rfl, q 0⟩
theorem call_bool_by {prog : Program} {w : World} {A : Around} {E : Value → Shared → Prop} {s : Shared} {x : Value} {Q : Value → Shared → Prop} (h : ∀ k, wpAny (model prog w) A.in1.in1 (truthy x) (fun b s' => ∀ j, Q (.bool b) { s' with toks := s'.toks + j }) E { s with toks := s.toks + k }) :
    wpAny (model prog w) A (call (.type "bool") [x]) Q E s :=
  callType_newIn F.called_bool F.newNe_bool (F.typeCall_bool_1 x) (F.newCall_bool_1 x) (fun obj => F.args_object_init_2 obj x) F.entry_bool_new (bool_truthy x) fun k => wpAny_mono (h k) (fun b s' q j => ⟨rfl, q j⟩) fun _ _ e => e
def dBoolT : List D → Option D
  | [.tup xs] => some (.bl (!xs.isEmpty))
  | [.lst xs] => some (.bl (!xs.isEmpty))
  | [.bl b] => some (.bl b)
  | _ => none
section
variable {X : Cx} {W : Wd} {pos : Pos}
def rBoolT (K : PySem.W.Frag) : List V → Hp → VK → Prop := fun xs H Q => (∃ p ys, xs = [.ref p] ∧ (SqL K H p ys ∨ SqT K H p ys) ∧ Q (.bl (!ys.isEmpty)) H) ∨ ∃ b, xs = [.bl b] ∧ Q (.bl b) H
theorem call_boolT : CallR X (.type "bool") (rBoolT X.K) := by
  intro pins s σ H xs us Q I r h
  have hl := line63
  have hs : sizeLine = 16777216 := sizeLine_eq
  rcases h with ⟨p, ys, rfl, hq, q⟩ | ⟨b, rfl, q⟩
  · obtain rfl := Vals.ref1 r
    rcases hq with hq | hq
    · refine call_bool_by fun k => ?_
      have I1 := I.tok (s.toks + k)
      obtain ⟨its, rv, pl, hz⟩ := I1.list hq
      have hlen := rv.length
      exact wpAny_truthy_list pl.isList (by simp only [List.size_toArray]; omega) fun j => ⟨.bl (!ys.isEmpty), H, I1.tok _, by rw [isEmpty_of rv]; rfl, q⟩
    · refine call_bool_by fun k => ?_
      have I1 := I.tok (s.toks + k)
      obtain ⟨its, rv, pl, hz⟩ := I1.tuple hq
      have hlen := rv.length
      exact PyProof.Rows.truthy_tuple pl (by simp only [List.size_toArray]; omega) fun j => ⟨.bl (!ys.isEmpty), H, I1.tok _, by rw [isEmpty_of rv]; rfl, q⟩
  · cases r with
    | cons r1 r2 =>
      cases r2
      cases r1
      exact call_bool_by fun k => wpAny_truthy_bool fun j => ⟨.bl b, H, I.tok _, rfl, q⟩
theorem q_boolT {K : PySem.W.Frag} : CallD K W (rBoolT K) dBoolT := by
  intro fr F H σ ρ n xs d vs Q R dx h k
  unfold dBoolT at h
  have em : ∀ {vs : List V} {ds : List D}, Dens K W fr.dr F vs ds → vs.isEmpty = ds.isEmpty := fun h => by cases h <;> rfl
  split at h
  · cases h
    cases dx with
    | cons h1 h2 =>
      cases h2
      cases h1 with
      | tup h3 h4 => exact .inl ⟨_, _, rfl, .inr (R.core.sub.sqT h3), by rw [em h4]; exact k F H _ R (Sub.refl _) (.bl _)⟩
  · cases h
    cases dx with
    | cons h1 h2 =>
      cases h2
      cases h1 with
      | lst h3 h4 => exact .inl ⟨_, _, rfl, .inl (SqL.of (R.core.sub _ _ h3)), by rw [em h4]; exact k F H _ R (Sub.refl _) (.bl _)⟩
  · cases h
    cases dx with
    | cons h1 h2 =>
      cases h2
      cases h1
      exact .inr ⟨_, rfl, k F H _ R (Sub.refl _) (.bl _)⟩
  · cases h
/-- bool(x), x an instance with an own __bool__ -/
theorem run_in2 {k : Nat} {f : Addr} {fd : FuncData} {ps : List Str} {sp : Sp} {pins : List (Addr × Obj)} {σ : St} {H : Hp} {s : Shared} {Q : VK} {us : List Value} {vs : List V} {E' : Value → Shared → Prop} (F : FnOk X.prog X.w X.K X.mg X.base (L2.CX X.prog X.w) k f fd ps sp) (hr : Room (k + 2) X.A) (hb : Binds X.K fd ps [])
    (I : Inv X pins σ H s) (r : Vals vs us) (h : sp vs H Q E0) : wpAny (model X.prog X.w) X.A.in1.in1 (call (.ref f) us) (EP X pins σ Q) E' s := by
  have hl : (us ++ []).length = ps.length := by rw [List.append_nil, ← r.length]; exact F.len _ _ _ _ h
  have b := hb s us I.kIn hl
  rw [List.append_nil] at b
  refine wpAny_call (codeAny_mono (F.run X.A.in1.in1 X.stack s H ⟨us, []⟩ us vs Q E0 hr.in1.in1 I.env0.in1.in1 b r h) ?_)
  rintro (e | fl) s' hq
  · obtain ⟨_, _, _, _, _, _, _, _, _, _, _, _, z⟩ := hq
    exact z.elim
  · cases fl with
    | ret u => exact I.after hq
    | next => exact hq.elim
    | brk => exact hq.elim
    | cont => exact hq.elim
def eBoolO (t : TX) : EX := fun ρ => M.bind (t ρ) fun b => M.pure (.bl b)
theorem d_boolO {c k : Nat} {fx : FX} {e : Expr} {f : EX} {p : Pos} (F : CalM X.prog X.w X.K X.mg X.base (W.cl c) "__bool__" k (spD X.K W fx 1)) (hr : Room (k + 2) X.A) (hg : Gl X "bool") (hm : X.mg "bool" = none) (ha : PD X W e f)
    (he : starEach [e] X.env = (false, eval e X.env) :: starEach [] X.env := by rfl) (hpl : (backTo pos (starEach [] X.env)).any (·.1) = false := by rfl) : PD X W (.Call (.Name "bool" p) [e] [] pos) (eBoolO (tOwn c fx f)) := by
  obtain ⟨fa, fd, ps, F, hmm, hbd⟩ := F
  constructor
  intro pins s σ H Q I ⟨fr, G, ρ, n, r, n', R, ev, kk⟩
  have h : tT X W (tOwn c fx f) σ H fun b H' => Q (.bl b) H' := by
    rcases M.bind_any ev with ⟨z, e1, rfl⟩ | ⟨b, n1, e1, h⟩
    · exact ⟨fr, G, ρ, n, .error z, n', R, e1, kk⟩
    · obtain ⟨h1, h2⟩ := M.pure_any h
      subst h1 h2
      exact ⟨fr, G, ρ, n, .ok b, _, R, e1, fun F1 H1 R1 s1 => kk F1 H1 _ R1 s1 (.bl _)⟩
  have h' := tOwn_of h
  have hc : CallR X (.type "bool") (fun xs H Q => ∃ x, xs = [x] ∧ (∃ p dx fs, x = .ref p ∧ H p = some (.ins (W.cl c) dx fs)) ∧ spD X.K W fx 1 [x] H (fun w H' => ∃ t, w = .bl t ∧ Q (.bl t) H') E0) := by
    rintro pins s σ H xs us Q I r ⟨x, rfl, ⟨q, dx, fs, rfl, hq⟩, sp⟩
    obtain rfl := Vals.ref1 r
    refine call_bool_by fun j => ?_
    have I1 := I.tok (s.toks + j)
    obtain ⟨mA, J, _⟩ := ins_get I1.hok hq
    obtain ⟨od, J, _⟩ := J.look
    obtain ⟨mm, hF⟩ := I1.fr
    refine PySem.W.truthy_K hF I1.ok.mod.kin J hmm.at_ hmm.fn (thn (run_in2 (us := [.ref q]) (vs := [.ref q]) F hr hbd I1 (.cons rfl .nil) sp) ?_)
    rintro w s3 ⟨z, H3, I3, rz, t, rfl, qz⟩ 
    have ew : w = Value.bool t := rz
    subst ew
    exact fun i => ⟨.bl t, H3, I3.tok _, rfl, qz⟩
  refine (pe_callTy hc hg hm rfl (pa_cons ha pa_nil he) (by decide) (by decide) he hpl).run pins s σ H Q I ?_
  obtain ⟨fr, G, ρ, n, r, n', R, ev, kk⟩ := h'
  refine ⟨fr, G, ρ, n, r, n', R, ev, ?_⟩
  cases r with
  | error z => exact kk
  | ok d => exact fun F1 H1 v R1 s1 d1 => ⟨_, rfl, kk F1 H1 v R1 s1 d1⟩
/-! ### try: g except C as n: return isinstance(n, C2) -/
def tsIs (K : PySem.W.Frag) (i : Nat) (C2 : Addr) (a : Addr) (cls : Value) (d : Option Addr) : TS := fun D σ H => ∃ Dc b, cls = .ref Dc ∧ d = none ∧ ExcC K Dc ∧ σ[i]? = some (some (.ref a)) ∧ PySem.W.kitOne K (.ref Dc) (.ref C2) = some b ∧ D.rt (.bl b) H
def sTryIs (i : Nat) (m q : Nat → Option Bool) (g : SX) : SX := fun ρ n => match g ρ n with
  | some (.error z, n1) => (match m z.c with
    | some true => (match q z.c, z.ks with
      | some t, [] => if i < ρ.length then some (.ok (.ret (.bl t)), n1) else none
      | _, _ => none)
    | some false => some (.error z, n1)
    | none => none)
  | r => r
theorem S_tryIs {i : Nat} {x n2 C2n : Str} {c : Value} {C2 : Addr} {body : List Stmt} {np pos pos' p0 p1 p2 p3 p4 : Pos} {m q : Nat → Option Bool} {g : SX} (hs : X.stack = X.env :: X.outer) (hf : X.env.frame = some X.env.locals) (hN : X.N.Nodup) (hi : X.N[i]? = some n2) (hln : X.env.kindOf n2 = some .local) (hc : Names X x c)
    (hm : ∀ i b, m i = some b → PySem.W.exmOne X.K (.ref (W.cl i)) c = some b) (hq : ∀ i b, q i = some b → ExcC X.K (W.cl i) ∧ PySem.W.kitOne X.K (.ref (W.cl i)) (.ref C2) = some b)
    (hg : Gl X "isinstance") (hmi : X.mg "isinstance" = none) (hgC : Gl X C2n) (hmC : X.mg C2n = some (.ref C2))
    (hb : ∀ (pn : List (Addr × Obj)) (xe : Value → Shared → Prop), PassesOwn (model X.prog X.w) X.A X.env xe → PSs (X.tr pn xe) body (tSx (X.tr pn xe) W g)) (hd : (C2n == ("__debug__" : Str)) = false := by decide) (hd1 : (n2 == ("__debug__" : Str)) = false := by decide) (hd2 : (n2 == ("__classdict__" : Str)) = false := by decide)
    (he : starEach [.Name n2 p1, .Name C2n p2] X.env = (false, eval (.Name n2 p1) X.env) :: starEach [.Name C2n p2] X.env := by rfl) (he2 : starEach [.Name C2n p2] X.env = (false, eval (.Name C2n p2) X.env) :: starEach [] X.env := by rfl) (hpl : (backTo p3 (starEach [.Name C2n p2] X.env)).any (·.1) = false := by rfl) :
    PDS X W (.Try body [.ExceptHandler (some (.Name x np)) (some n2) [.Return (some (.Call (.Name "isinstance" p0) [.Name n2 p1, .Name C2n p2] [] p3)) p4] pos'] [] [] pos) (sTryIs i m q g) := by
  have hv : Vis X.env.scope n2 := .inl hln
  refine imp_S (ps_try_as (Wout := Acc X) (tb := fun Wx => tSW X.K W Wx g) (ts := tsIs X.K i C2) hs hf hN hi hln hc takesAcc (fun Wx pn xe tk po => sw_of tk (hb pn xe po)) fun a oe cls d pn hz hfd => ?_) ?_
  · constructor
    rintro pins s σ H D I ⟨Dc, b, rfl, rfl, C, h1, h2, h3⟩
    refine (pss_one (ps_ret (pe_callB (call_isE C hz hfd) hg hmi rfl (pa_cons (pe_var hi hv hd1 hd2) (pa_cons (pe_glob (v := .ref C2) hgC hmC rfl hd) pa_nil he2) he) (by decide) (by decide) he hpl))).run pins s σ H D I ?_
    exact ⟨_, h1, .ref C2, .ref C2, b, rfl, fun u r => r, h2, h3⟩
  · rintro E σ H ⟨fr, F, ρ, n, r, n', R, e, k⟩
    unfold sTryIs at e
    split at e
    · rename_i z n1 eg
      refine ⟨fr, F, ρ, n, .error z, n1, R, eg, fun F1 H1 cls d R1 s1 xx => ?_⟩
      have ec : cls = .ref (W.cl z.c) := xx.1
      split at e
      · rename_i hz
        refine ⟨true, by rw [ec]; exact hm _ _ hz, fun _ a ha => ?_, fun q => nomatch q⟩
        split at e
        · rename_i t hk1 hk2
          split at e
          case isFalse => cases e
          rename_i hlt
          cases e
          obtain ⟨I1, I2⟩ := hq _ _ hk1
          refine ⟨_, t, ec, ?_, I1, ?_, I2, k F1 H1 _ R1.core s1 (.bl _)⟩
          · rcases xx.2 with z1 | ⟨_, _, _, z1, _⟩
            · exact z1.1
            · exact absurd hk2 z1
          · obtain ⟨ad, sl⟩ := R1.slots
            rw [get_set_self (by rw [sl.len]; exact hlt)]
        · cases e
      · rename_i hz
        cases e
        exact ⟨false, by rw [ec]; exact hm _ _ hz, (fun q => nomatch q), fun _ => k F1 H1 σ cls d R1.core s1 xx⟩
      · cases e
    · rename_i hne
      rcases r with z | o
      · exact absurd e (hne z n')
      · exact ⟨fr, F, ρ, n, .ok o, n', R, e, k⟩
end
end DL
end

section
set_option Elab.async false
set_option linter.all false
set_option autoImplicit false
set_option maxRecDepth 100000
set_option maxHeartbeats 1000000
namespace DL
open PySem PySem.Spec L2
theorem u1 {X : Cx} (h : X.A.units + 64 < cLine) : X.A.units + 1 < cLine := by omega
theorem u0 {X : Cx} (h : X.A.units + 64 < cLine) : X.A.units < cLine := by omega
def CalP (P : Program) (w : World) (K : PySem.W.Frag) (mg : Str → Option Value) (base : Heap) (C : Addr) (m : Str) (k : Nat) (sp : Sp) : Prop :=
  ∃ p g fd ps, FnOk P w K mg base (L2.CX P w) k g fd ps sp ∧ PropOf K C m p g ∧ Binds K fd ps []
section
variable {X : Cx} {W : Wd} {c k : Nat} {pos : Pos} {a b : Expr} {fa fb : EX} {fx : FX}
theorem c_own2 {op : Operator} {m : Str} (F : CalM X.prog X.w X.K X.mg X.base (W.cl c) m k (spD X.K W fx 2)) (hm : PySem.dunder op.info.2 = m) (hr : Room k X.A) (hc : PySem.W.selfFirst X.K (W.cl c) = true) (ha : PD X W a fa) (hb : PD X W b fb) :
    PD X W (.BinOp a op b pos) (eOwn2 c fx fa fb) := by
  subst hm
  exact d_own2 F hr hc ha hb
theorem c_prop {f : Str} (F : CalP X.prog X.w X.K X.mg X.base (W.cl c) f k (spD X.K W fx 1)) (hr : Room (k + 1) X.A) (cl : Cls X.K (W.cl c)) (ha : PD X W a fa)
    (hab : attributeBase a f X.env (eval a X.env) = eval a X.env := by rfl) : PD X W (.Attribute a f pos) (e1M (mOwn1 c fx) fa) := by
  obtain ⟨p, g, fd, ps, h1, h2, h3⟩ := F
  exact d_prop cl h2 h1 hr h3 ha hab
/-- len of a list of one's own -/
def eOwnLen (i : Nat) : EX := fun ρ => M.opt (match own? ρ i with | some (.lst ds) => some (.int ds.length) | _ => none)
theorem d_ownLen {i : Nat} {o : Expr} {p : Pos} (hg : Gl X "len") (hm : X.mg "len" = none) (ho : PE X o (tVar i)) (he : starEach [o] X.env = (false, eval o X.env) :: starEach [] X.env := by rfl) (hpl : (backTo pos (starEach [] X.env)).any (·.1) = false := by rfl) : PD X W (.Call (.Name "len" p) [o] [] pos) (eOwnLen i) :=
  imp_E (pe_callB call_len hg hm rfl (pa_cons ho pa_nil he) (by decide) (by decide) he hpl) fun σ H Q ⟨fr, F, ρ, n, r, n', R, e, k⟩ => by
    rcases r with z | d
    · exact (M.opt_err e).elim
    obtain ⟨h1, h2⟩ := M.opt_ok e
    subst h2
    split at h1
    · cases h1
      obtain ⟨ad, s⟩ := R.slots
      obtain ⟨a1, a2, a3, a4, ⟨us, a5, a6⟩, a7⟩ := s.own i _ (own_some ‹_›)
      refine ⟨_, a1, _, _, rfl, .inl ⟨_, SqL.of a5, rfl⟩, ?_⟩
      rw [a6.length]
      exact k F H _ R (Sub.refl _) (.int _)
    · cases h1
end
end DL
end

section
set_option Elab.async false
set_option linter.all false
set_option autoImplicit false
set_option maxRecDepth 100000
set_option maxHeartbeats 1000000
namespace DL
open PySem PySem.Spec L2 PyProof.Rows
section
variable {X : Cx} {W : Wd}
/-- y = {k: v for ..}, one line -/
theorem ps_setDcD {i : Nat} {y : Str} {py : Pos} {kx vx tg iter : Expr} {ifs : List Expr} {scope : Scope} {own : List (Str × Nat)} {pos spos : Pos} {wi : TI} {g : TG} {tt : TT} {tk tv : TE}
    (hc : X.calm = true) (hN : X.N.Nodup) (hy : X.N[i]? = some y) (hyl : X.env.scope.names.lookup y = some .local)
    (hsw : swapsWith (.DictComp kx vx [⟨tg, iter, ifs, 0⟩] scope pos) (some (.Name y py)) spos.line X.env = pure true)
    (hi : PI X tg iter wi) (ok : BlkOk X.N X.env.scope scope own)
    (hg : ∀ (s : Shared) (H : Hp) (C : Addr) (cl : List (Str × Addr)) (fp : List Addr),
      PG (X.blk s H scope (compEnvC scope cl C X.env) fp) tg g)
    (ht : ∀ (s : Shared) (H : Hp) (C : Addr) (cl : List (Str × Addr)) (fp : List Addr),
      PTs (X.blk s H scope (compEnvC scope cl C X.env) fp) ifs tt)
    (hk : ∀ (s : Shared) (H : Hp) (C : Addr) (cl : List (Str × Addr)) (fp : List Addr),
      PE (X.blk s H scope (compEnvC scope cl C X.env) fp) kx tk)
    (he : ∀ (s : Shared) (H : Hp) (C : Addr) (cl : List (Str × Addr)) (fp : List Addr),
      PE (X.blk s H scope (compEnvC scope cl C X.env) fp) vx tv)
    (hs : ∀ x, foldedSetIterable iter X.env x = pure x) :
    PS X (.Assign [.Name y py] (.DictComp kx vx [⟨tg, iter, ifs, 0⟩] scope pos) spos) (tAsg (tDc wi g tt tk tv (own.map (·.2))) (gName i)) := by
  constructor
  intro pins s σ H D I h
  rw [exec_Assign_Name_used _ _ _ _ hsw]
  refine wpAny_bind (wpAny_standAt (wpAny_bind ?_))
  have h9 : tDc wi g tt tk tv (own.map (·.2)) σ H (fun x H1 => gName i x σ H1 D.nx) := h
  have core := dc_core (pos := pos) (pos' := firstIterPos [⟨tg, iter, ifs, 0⟩] pos) (use := some (assign (.Name y py) X.env)) (Qf := fun _ s' => SP X pins D .next s') hc hN I hi ok hg ht hk he hs h9 ?_
  · exact wpAny_bind (thn core fun _ s' hq => wpAny_pure (wpAny_pure hq))
  intro L C s' m H' I' q hn f
  show wpAny _ _ (assign (.Name y py) X.env (.ref L)) _ _ _
  refine wpAny_assign_Name (store_ok2 (v := V.ref L) I' hN hy (.inl hyl) rfl ?_ (.inr hyl))
  rintro s2 I2 ⟨a, sb, ha⟩
  obtain ⟨f0, f1, f2, f3, f4, f5⟩ := f
  have hne : C ≠ a := by
    rcases ha with z | z
    · subst z; exact f1
    · intro e; exact f4 y a z e.symm
  refine ⟨m, hn.sameBut sb hne, fun h3 sb3 => ⟨_, H', ?_, q⟩⟩
  exact I2.turned (t' := s2.toks) (fun b o hb e => (sb3.2 b hb).trans e) f0 f1 f3 f4 f5
theorem sw_trueD {kx vx : Expr} {gs : List Comprehension} {scope : Scope} {pos py : Pos} {y : Str} {l : Nat} {env : PySem.Env} (hk : env.scope.kind = .function) (hy : env.scope.names.lookup y = some .local) (hl : (py.line == pos.line) = true)
    (ha : (scope.names.any fun (n, k) => n == y && (k == .local || k == .cell)) = false) : swapsWith (.DictComp kx vx gs scope pos) (some (.Name y py)) l env = pure true := by
  have e1 : env.kindOf y = some .local := hy
  have e2 : env.blockKind = .function := by
    unfold PySem.Env.blockKind
    rw [hk]; rfl
  unfold swapsWith
  simp only [e2, e1, ha, Expr.pos, hl]
  rfl
theorem S_setDComp {vs : List Nat} {i : Nat} {y : Str} {py : Pos} {kx vx tg iter : Expr} {ifs : List Expr} {scope : Scope} {own : List (Str × Nat)} {pos spos : Pos} {t : TG} {g : GX} {is : List Nat} {it : IX} {tt : TX} {fk fv : EX} (hc : X.calm = true) (hN : X.N.Nodup) (hy : X.N[i]? = some y) (hyl : X.env.scope.names.lookup y = some .local)
    (hsw : swapsWith (.DictComp kx vx [⟨tg, iter, ifs, 0⟩] scope pos) (some (.Name y py)) spos.line X.env = pure true) (hi : PDI X W tg iter it) (ok : BlkOk X.N X.env.scope scope own)
    (hg : ∀ (s : Shared) (H : Hp) (C : Addr) (cl : List (Str × Addr)) (fp : List Addr), PG (X.blk s H scope (compEnvC scope cl C X.env) fp) tg t) (hq : GOk X.K W t g is) (hv : ∀ i ∈ is, i ∈ vs)
    (ht : ∀ (s : Shared) (H : Hp) (C : Addr) (cl : List (Str × Addr)) (fp : List Addr), PTs (X.blk s H scope (compEnvC scope cl C X.env) fp) ifs (tT (X.blk s H scope (compEnvC scope cl C X.env) fp) W tt))
    (hk : ∀ (s : Shared) (H : Hp) (C : Addr) (cl : List (Str × Addr)) (fp : List Addr), PD (X.blk s H scope (compEnvC scope cl C X.env) fp) W kx fk)
    (he : ∀ (s : Shared) (H : Hp) (C : Addr) (cl : List (Str × Addr)) (fp : List Addr), PD (X.blk s H scope (compEnvC scope cl C X.env) fp) W vx fv) (hs : ∀ x, foldedSetIterable iter X.env x = pure x := by intro _; rfl) (hvs : own.map (·.2) = vs := by rfl) :
    PDS X W (.Assign [.Name y py] (.DictComp kx vx [⟨tg, iter, ifs, 0⟩] scope pos) spos) (sAsg (gV i) (eDComp vs g it tt fk fv)) := by
  subst hvs
  refine imp_S (ps_setDcD (tt := tTk X.K W tt) (tk := tDk X.K W fk) (tv := tDk X.K W fv) hc hN hy hyl hsw hi ok hg (fun s H C cl fp => tsk (ht s H C cl fp)) (fun s H C cl fp => dk (hk s H C cl fp)) (fun s H C cl fp => dk (he s H C cl fp)) hs) fun E σ H ⟨fr, F, ρ, n, r, n', R, e, k⟩ => ?_
  rcases r with z | o
  · refine d_tDc hq hv (R.dE e (KS.x k) fun _ _ _ _ _ _ h _ _ _ => ?_)
    rcases M.bind_err h with h | ⟨_, _, _, h⟩
    · exact (M.opt_err h).elim
    · exact (M.pure_err h).elim
  obtain ⟨x, n1, e1, ha⟩ := M.bind_ok e
  obtain ⟨ρ', n2, e2, h⟩ := M.bind_ok ha
  obtain ⟨h1, h2⟩ := M.pure_ok h
  obtain ⟨h3, h4⟩ := M.opt_ok e2
  clear ha h
  subst h4
  subst h1 h2
  refine d_tDc hq hv ⟨fr, F, ρ, n, .ok x, _, R, e1, fun F1 H1 v R1 s1 d1 => ?_⟩
  cases h3
  exact k F1 H1 _ (R1.set d1) s1
end
theorem kit_self {K : PySem.W.Frag} {C : Addr} : PySem.W.kitOne K (.ref C) (.ref C) = some true := if_pos (beq_self_eq_true _)
theorem kit_sub {K : PySem.W.Frag} {C : Addr} {t : Value} (hd : PySem.W.hasDictIn K C = true) (ht : PySem.W.typeIn K (.ref C) = some (.type "type")) (h : PySem.W.subIn K t (.ref C) = some true) : PySem.W.kitOne K t (.ref C) = some true := by
  obtain ⟨cd, hc, _⟩ := PySem.W.any_some hd
  have e : ((PySem.W.clsIn K C).isSome && PySem.W.typeIn K (.ref C) == some (.type "type")) = true := by
    rw [hc, ht]; rfl
  unfold PySem.W.kitOne
  split
  · rfl
  · show (if ((PySem.W.clsIn K C).isSome && PySem.W.typeIn K (.ref C) == some (.type "type")) = true then PySem.W.subIn K t (.ref C) else none) = some true
    rw [if_pos e]; exact h
end DL
end

section
set_option Elab.async false
set_option linter.all false
set_option autoImplicit false
set_option maxRecDepth 100000
set_option maxHeartbeats 1000000
/-! a lambda without parameters, handed to a def that tells whether it is refused -/
namespace DL
open PySem PySem.Spec L2
theorem Rel.extN {K : PySem.W.Frag} {W : Wd} {fr : Fr} {F H H1 : Hp} {σ : St} {ρ : Env} {n : Int} (r : Rel K W fr F H σ ρ n) (x : LamX.ExtN H H1) (t : LamX.Tabs W.tb H1) : Rel K W fr F H1 σ ρ n := by
  have c := r.core
  refine r.keep ⟨fun a o q => x a o (c.sub a o q) (c.ntF a o q), fun a o q1 q2 q3 => ?_, c.f0, c.new, fun a o q => ?_, fun a q => ?_, c.ntF, t⟩ (Sub.refl _) (fun a o q nt _ => x a o q nt) fun a o _ _ q => q
  · have h := c.base a o q1 q2 q3
    obtain ⟨o', q, nt⟩ := c.there a o q1
    rw [h] at q; cases q
    exact x a o h nt
  · obtain ⟨o', q', nt⟩ := c.there a o q
    exact ⟨o', x a o' q' nt, nt⟩
  · obtain ⟨q1, q2, q3⟩ := c.draw a q
    exact ⟨q1, x a _ q2 (fun _ z => by cases z), q3⟩
/-- an expression's reading, where what is raised is wished for by E -/
def tDE (K : PySem.W.Frag) (W : Wd) (E : XK) (f : EX) : TE := fun σ H Q => ∃ fr F ρ n r n', Rel K W fr F H σ ρ n ∧ f ρ n = some (r, n') ∧
  Res (fun d => ∀ F' H' v, Rel K W fr F' H' σ ρ n' → Sub F F' → Den K W fr.dr F' v d → Q v H') (fun z => ∀ F' H' cls d, Rel K W fr F' H' σ ρ n' → Sub F F' → XDen K W fr.dr F' H' z cls d → E cls d H') r
/-- refused? -/
def eLam (m : Nat → Option Bool) (f : EX) : EX := fun ρ n => match f ρ n with
  | some (.ok _, n1) => some (.ok (.bl false), n1)
  | some (.error z, n1) => (match m z.c with
    | some true => some (.ok (.bl true), n1)
    | _ => none)
  | none => none
def TTr (K : PySem.W.Frag) (c : Value) : (XK → Hp → VK → Prop) → Hp → VK → Prop := fun tl H Q =>
  ∀ E Q', (∀ cls d H', PySem.W.exmOne K cls c = some true → Q (.bl true) H' → E cls d H') → (∀ v H', Q (.bl false) H' → Q' v H') → tl E H Q'
theorem gives_refused {X : Cx} {Ng : List Str} {x : Str} {sg : Scope} {g : Addr} {cdg : Value} {bg : List Stmt} {a q ex : Str} {c : Value} {p1 p2 p3 p4 p5 p6 p7 p8 : Pos} {k1 k2 : Nat}
    (hbg : bg = [.Try [.Expr (.Call (.Name a p1) [] [] p2) p3] [.ExceptHandler (some (.Name ex p4)) none [.Return (some (.Constant (.bool true) k1 p5)) p6] p7] [] [] p8, .Return (some (.Constant (.bool false) k2 p1)) p2]) (hc : ∀ s H, Names (cxOf C8.CX0 X.prog X.w X.K X.mg X.base Ng x sg g cdg X.A X.stack s H C8.E0).nox ex c) : LamX.GivesTo X Ng x sg g cdg bg a q (TTr X.K c) := by
  intro f c' s H Q tl call hc' tt
  subst hbg
  refine ⟨_, pss_cons (ps_try_only (Wout := fun _ _ _ _ => False) (c := c) rfl rfl (hc s H) LamX.takes0 (fun Wx pn xe tk po => pss_one (ps_expr (call Wx pn xe (fun cls d H' => ∀ σ', Wx cls d σ' H') p1 p2 tk fun cls d σ' H' k => k σ') rfl)) fun a oe cls d pn _ _ => pss_one (ps_ret pe_bl)) (pss_one (ps_ret pe_bl)), ?_⟩
  refine ⟨rfl, hc', tt _ _ (fun cls d H' h1 h2 σ' => ⟨true, h1, fun _ _ _ => h2, fun z => nomatch z⟩) fun v H' h => h⟩
theorem lam_body {X : Cx} {W : Wd} {A : Around} {outer : List PySem.Env} {s : Shared} {H : Hp} {E : XK} {scope : Scope} {f c' : Addr} {body : Expr} {g : EX} (h : PD (LamX.lamCx X A outer s H E scope f c') W body g) : PE (LamX.lamCx X A outer s H E scope f c') body (tDE X.K W E g) :=
  imp_E h fun σ H1 Q ⟨fr, F, ρ, n, r, n', R, e, k⟩ => by
    refine ⟨fr, F, ρ, n, r, n', R, e, ?_⟩
    cases r with
    | ok d => exact k
    | error z => exact fun F' H' cls d R' s' xd => acc_of (E := E) rfl rfl rfl rfl (k F' H' cls d R' s' xd)
theorem d_lam {X : Cx} {W : Wd} {x a : Str} {g c P : Addr} {k : Nat} {pg : Arguments} {bg : List Stmt} {sg : Scope} {dV kV doc pm cdv ct oc cx : Value} {an od : Option Addr} {osl : Array (Option Value)} {Ng : List Str} {params : Arguments} {body : Expr} {scope : Scope} {p lpos pos : Pos} {m : Nat → Option Bool} {f : EX}
    (hg : Gl X x) (hm : X.mg x = some (.ref g)) (hk : PySem.W.keepIn X.K (.ref g) = true) (lk : X.K.lookup g = some ⟨oc, od, .func (PySem.W.fnOf x x pg bg sg dV kV doc pm an cdv ct), osl⟩) (hcg : PySem.W.codeIn X.K cdv x = true)
    (hb : Binds X.K (PySem.W.fnOf x x pg bg sg dV kV doc pm an cdv ct) [a] []) (Sg : FnScope Ng [a] sg) (hNg : Ng[0]? = some a) (hva : Vis sg a) (hG : LamX.GivesTo X Ng x sg g cdv bg a (X.env.qual ++ ("<lambda>" : Str)) (TTr X.K cx))
    (TB : LamX.TabB X.base X.mg c P) (hcode : X.env.code = .ref c) (hT : W.tb = [(P, X.env.qual ++ ("<lambda>" : Str))]) (hr : Room (k + 2) X.A) (L : LamX.LamS X.env.scope scope) (hdef : defaultsOf params X.env = ([], []))
    (hbind : ∀ (q : Str) (cl : List (Str × Addr)) (pm cv ctv : Value), bindArgs (PySem.W.kla_fn "<lambda>" q params body scope cl pm cv ctv) ⟨[], []⟩ = pure []) (hmm : ∀ i b, m i = some b → PySem.W.exmOne X.K (.ref (W.cl i)) cx = some b)
    (hbody : ∀ (A : Around) (outer : List PySem.Env) (s : Shared) (H : Hp) (E : XK) (f' c' : Addr), Room k (A.deeper (LamX.lamEnv X scope s.heap.objs.size f' c')) → PD (LamX.lamCx X A outer s H E scope f' c') W body f) (h1 : (x == ("__debug__" : Str)) = false := by decide) (h2 : (a == ("__debug__" : Str)) = false := by decide) (h3 : (a == ("__classdict__" : Str)) = false := by decide) :
    PD X W (.Call (.Name x p) [.Lambda params body scope lpos] [] pos) (eLam m f) := by
  refine imp_E (LamX.pe_lamcall (TT := TTr X.K cx) (t := fun E => tDE X.K W E f) (T := W.tb) hg hm hk lk hcg hb Sg hNg hva hG TB hcode (by rw [hT]; exact List.mem_singleton.mpr rfl) (fun p hp _ => by rw [hT] at hp; rw [List.mem_singleton.mp hp]) hr L hdef hbind (fun A outer s H E f' c' r => lam_body (hbody A outer s H E f' c' r)) h1 h2 h3) ?_
  rintro σ H Q ⟨fr, F, ρ, n, r, n', R, e, kk⟩
  refine ⟨R.core.tabs, fun H1 x1 t1 => ?_⟩
  have R1 := R.extN x1 t1
  intro E Q' hE hQ
  unfold eLam at e
  split at e
  · rename_i d n1 e1
    cases e
    exact ⟨fr, F, ρ, n, .ok d, n', R1, e1, fun F' H' v R' s' _ => hQ v H' (kk F' H' (.bl false) R' s' (.bl false))⟩
  · rename_i z n1 e1
    split at e
    · rename_i hz
      cases e
      refine ⟨fr, F, ρ, n, .error z, n', R1, e1, fun F' H' cls d R' s' xd => hE cls d H' ?_ (kk F' H' (.bl true) R' s' (.bl true))⟩
      have ec : cls = .ref (W.cl z.c) := xd.1
      rw [ec]
      exact hmm _ _ hz
    · cases e
  · cases e
end DL
end

section
set_option Elab.async false
set_option linter.all false
set_option autoImplicit false
set_option maxRecDepth 100000
set_option maxHeartbeats 1000000
/-! xs += ys; min, max of ints; how many different ints -/
namespace DL
open PySem PySem.Spec L2
section
variable {X : Cx} {W : Wd}
theorem set_eqv {α : Type} {l : List α} {i : Nat} {x : α} (h : l[i]? = some x) : l.set i x = l := by
  apply List.ext_getElem?
  intro j
  by_cases c : i = j
  · subst c
    rw [h, List.getElem?_set_self (List.getElem?_eq_some_iff.mp h).1]
  · rw [List.getElem?_set_ne c]
/-- x += e, lists, x one's own -/
def uExt (d : D) : D → Option D
  | .lst xs => match d with
    | .lst ys => if xs.length + ys.length ≤ sizeLine then some (.lst (xs ++ ys)) else none
    | _ => none
  | _ => none
def sExt (i : Nat) (fx : EX) : SX := fun ρ => M.bind (M.opt (ownLst i ρ)) fun _ => sUp i uExt fx ρ
theorem S_ext {i : Nat} {y : Str} {e : Expr} {fx : EX} {p pos : Pos} (hN : X.N.Nodup) (hi : X.N[i]? = some y) (hx : Loc X.env.scope y) (he : PD X W e fx) (hf : X.fn y = true ∨ X.env.scope.names.lookup y = some .local := by first | exact .inl rfl | exact .inr rfl | assumption) : PDS X W (.AugAssign (.Name y p) .Add e pos) (sExt i fx) := imp_S (ps_aug hN hi hx he (iop_ext : OpR X (inplaceOp .Add) rExt2) hf) fun E σ H ⟨fr, F, ρ, n, r, n', R, e, k⟩ => by
  rcases M.bind_any e with ⟨z, e0, rfl⟩ | ⟨ds0, n0, e0, e9⟩
  · exact (M.opt_err e0).elim
  clear e
  have e := e9
  clear e9
  obtain ⟨q0, q1⟩ := M.opt_ok e0
  subst q1
  obtain ⟨zs0, q0⟩ := ownLst_some q0
  obtain ⟨ad0, s0⟩ := R.slots
  obtain ⟨z1, z2, z3, z4, z5, z7⟩ := s0.own i _ q0
  refine ⟨_, z1, ?_⟩
  rcases r with z | o
  · refine R.dE e (KS.x k) fun _ _ _ _ _ _ h _ _ _ => ?_
    rcases M.bind_err h with h | ⟨_, _, _, h⟩
    · exact (M.opt_err h).elim
    · exact (M.pure_err h).elim
  obtain ⟨d, a, b, e1, hi, e3, rfl⟩ := sUp_ok e
  unfold uExt at e3
  cases a with
  | lst ds =>
    cases d with
    | lst ys =>
      have e3 : (if ds.length + ys.length ≤ sizeLine then some (D.lst (ds ++ ys)) else none) = some b := e3
      split at e3
      · rename_i q
        cases e3
        refine ⟨fr, F, ρ, _, .ok _, _, R, e1, fun F1 H1 v R1 s1 d1 => ?_⟩
        obtain ⟨ad, s⟩ := R1.slots
        obtain ⟨a1, a2, a3, a4, ⟨us, a5, a6⟩, a7⟩ := s.own i _ hi
        have ea : ad i = ad0 i := by rw [a1] at z1; injection z1 with z1; injection z1 with z1; injection z1
        cases d1 with
        | lst b1 b2 =>
          rename_i l vs
          refine ⟨ad i, l, us, vs, by rw [ea], rfl, a5, R1.core.sub _ _ b1, by rw [a6.length, b2.length]; exact q, ?_⟩
          have ch := R1.change s hi (o := .lst (us ++ vs)) (d' := .lst (ds ++ ys)) ⟨us ++ vs, upd_same, a6.append b2⟩ rfl
          show E.nx (σ.set i (some (.ref (ad i)))) _
          rw [set_eqv a1]
          exact k F1 _ _ ch s1
      · cases e3
    | _ => cases e3
  | _ => cases e3
/-- min, max of a list of ints -/
def lstI : List D → Option (List Int)
  | [.lst ds] => dInts ds
  | _ => none
def minI : List Int → Option Int
  | [] => none
  | a :: r => some (r.foldl (fun m y => if y < m then y else m) a)
def maxI : List Int → Option Int
  | [] => none
  | a :: r => some (r.foldl (fun m y => if m < y then y else m) a)
def dMinL (xs : List D) : Option D := (lstI xs).bind fun ns => (minI ns).map D.int
def dMaxL (xs : List D) : Option D := (lstI xs).bind fun ns => (maxI ns).map D.int
theorem fold_min : ∀ (r : List Int) (a : Int), (r.foldl (fun m y => if y < m then y else m) a = a ∨ r.foldl (fun m y => if y < m then y else m) a ∈ r) ∧ r.foldl (fun m y => if y < m then y else m) a ≤ a ∧ ∀ y ∈ r, r.foldl (fun m y => if y < m then y else m) a ≤ y
  | [], a => ⟨.inl rfl, Int.le_refl _, fun _ h => absurd h List.not_mem_nil⟩
  | b :: r, a => by
    obtain ⟨h1, h2, h3⟩ := fold_min r (if b < a then b else a)
    rw [List.foldl_cons]
    have le : (if b < a then b else a) ≤ a ∧ (if b < a then b else a) ≤ b := by split <;> omega
    refine ⟨?_, by omega, fun y hy => ?_⟩
    · rcases h1 with h | h
      · rw [h]
        split
        · exact .inr List.mem_cons_self
        · exact .inl rfl
      · exact .inr (List.mem_cons_of_mem _ h)
    · rcases List.mem_cons.mp hy with rfl | hy
      · omega
      · exact h3 y hy
theorem fold_max : ∀ (r : List Int) (a : Int), (r.foldl (fun m y => if m < y then y else m) a = a ∨ r.foldl (fun m y => if m < y then y else m) a ∈ r) ∧ a ≤ r.foldl (fun m y => if m < y then y else m) a ∧ ∀ y ∈ r, y ≤ r.foldl (fun m y => if m < y then y else m) a
  | [], a => ⟨.inl rfl, Int.le_refl _, fun _ h => absurd h List.not_mem_nil⟩
  | b :: r, a => by
    obtain ⟨h1, h2, h3⟩ := fold_max r (if a < b then b else a)
    rw [List.foldl_cons]
    have le : a ≤ (if a < b then b else a) ∧ b ≤ (if a < b then b else a) := by split <;> omega
    refine ⟨?_, by omega, fun y hy => ?_⟩
    · rcases h1 with h | h
      · rw [h]
        split
        · exact .inr List.mem_cons_self
        · exact .inl rfl
      · exact .inr (List.mem_cons_of_mem _ h)
    · rcases List.mem_cons.mp hy with rfl | hy
      · omega
      · exact h3 y hy
theorem minI_ok {ns : List Int} {m : Int} (h : minI ns = some m) : 0 < ns.length ∧ m ∈ ns ∧ ∀ y ∈ ns, m ≤ y := by
  cases ns with
  | nil => cases h
  | cons a r =>
    obtain ⟨h1, h2, h3⟩ := fold_min r a
    injection h with h
    rw [h] at h1 h2 h3
    refine ⟨by simp, ?_, fun y hy => ?_⟩
    · rcases h1 with h1 | h1
      · rw [h1]; exact List.mem_cons_self
      · exact List.mem_cons_of_mem _ h1
    · rcases List.mem_cons.mp hy with rfl | hy
      · exact h2
      · exact h3 y hy
theorem maxI_ok {ns : List Int} {m : Int} (h : maxI ns = some m) : 0 < ns.length ∧ m ∈ ns ∧ ∀ y ∈ ns, y ≤ m := by
  cases ns with
  | nil => cases h
  | cons a r =>
    obtain ⟨h1, h2, h3⟩ := fold_max r a
    injection h with h
    rw [h] at h1 h2 h3
    refine ⟨by simp, ?_, fun y hy => ?_⟩
    · rcases h1 with h1 | h1
      · rw [h1]; exact List.mem_cons_self
      · exact List.mem_cons_of_mem _ h1
    · rcases List.mem_cons.mp hy with rfl | hy
      · exact h2
      · exact h3 y hy
theorem lstI_ok {K : PySem.W.Frag} {dr : Option Addr} {F : Hp} {xs : List D} {ns : List Int} {vs : List V} (d : Dens K W dr F vs xs) (h : lstI xs = some ns) : ∃ a, vs = [.ref a] ∧ F a = some (.lst (ns.map V.int)) := by
  unfold lstI at h
  split at h
  · cases d with
    | cons h1 h2 =>
      cases h2
      cases h1 with
      | lst h3 h4 => exact ⟨_, rfl, by rw [← ints_of h4 h]; exact h3⟩
  · cases h
theorem q_minL {K : PySem.W.Frag} : CallD K W (rMin K) dMinL := by
  intro fr F H σ ρ n xs d vs Q R dx h k
  unfold dMinL at h
  cases e : lstI xs with
  | none => rw [e] at h; cases h
  | some ns =>
    rw [e] at h
    cases e2 : minI ns with
    | none => rw [Option.bind_some, e2] at h; cases h
    | some m0 =>
      rw [Option.bind_some, e2] at h
      cases h
      obtain ⟨a, rfl, hF⟩ := lstI_ok dx e
      obtain ⟨h1, h2, h3⟩ := minI_ok e2
      refine ⟨a, ns, rfl, SqL.of (R.core.sub _ _ hF), h1, fun m hm hl => ?_⟩
      have : m = m0 := Int.le_antisymm (hl _ h2) (h3 _ hm)
      rw [this]
      exact k F H _ R (Sub.refl _) (.int _)
theorem q_maxL {K : PySem.W.Frag} : CallD K W (rMax K) dMaxL := by
  intro fr F H σ ρ n xs d vs Q R dx h k
  unfold dMaxL at h
  cases e : lstI xs with
  | none => rw [e] at h; cases h
  | some ns =>
    rw [e] at h
    cases e2 : maxI ns with
    | none => rw [Option.bind_some, e2] at h; cases h
    | some m0 =>
      rw [Option.bind_some, e2] at h
      cases h
      obtain ⟨a, rfl, hF⟩ := lstI_ok dx e
      obtain ⟨h1, h2, h3⟩ := maxI_ok e2
      refine ⟨a, ns, rfl, SqL.of (R.core.sub _ _ hF), h1, fun m hm hl => ?_⟩
      have : m = m0 := Int.le_antisymm (h3 _ hm) (hl _ h2)
      rw [this]
      exact k F H _ R (Sub.refl _) (.int _)
/-- len(set(e)): ints, no two alike -/
def dLenSet : D → Option D
  | .lst ds => match dInts ds with
    | some ns => if ns.length < 64 ∧ ns.Nodup then some (.int ns.length) else none
    | none => none
  | _ => none
theorem d_lenSet {a : Expr} {fa : EX} {p p2 q pos : Pos} (hg : Gl X "len") (hm : X.mg "len" = none) (hg2 : Gl X "set") (hm2 : X.mg "set" = none) (ha : PD X W a fa) (hc : X.calm = true := by rfl) (na : starEach [a] X.env = (false, eval a X.env) :: starEach [] X.env := by rfl) : PD X W (.Call (.Name "len" p) [.Call (.Name "set" p2) [a] [] q] [] pos) (e1 dLenSet fa) := imp_E (RZ.pe_lenSetI hg hm hg2 hm2 ha hc na) fun σ H Q ⟨fr, F, ρ, n, r, n', R, e, k⟩ => by
  rcases r with z | o
  · exact R.dE1 e k
  obtain ⟨x, n1, e1, h⟩ := M.bind_ok e
  obtain ⟨h1, h2⟩ := M.opt_ok h
  subst h2
  refine ⟨fr, F, ρ, n, .ok x, _, R, e1, fun F1 H1 v R1 s1 d1 => ?_⟩
  unfold dLenSet at h1
  split at h1
  · split at h1
    · split at h1
      · rename_i ns q1 q2
        cases h1
        cases d1 with
        | lst b1 b2 =>
          have := ints_of b2 q1
          subst this
          exact ⟨_, ns, rfl, SqL.of (R1.core.sub _ _ b1), q2.2, by have := q2.1; omega, k F1 H1 _ R1 s1 (.int _)⟩
      · cases h1
    · cases h1
  · cases h1
end
end DL
end

section
set_option Elab.async false
set_option linter.all false
set_option autoImplicit false
set_option maxRecDepth 100000
set_option maxHeartbeats 1000000
/-! a def that tells whether a deed is refused, as a fact; the end of a law with lambdas -/
namespace DL
open PySem PySem.Spec L2
open PyProof.Rows (envOfC)
structure LamF (K : PySem.W.Frag) (mg : Str → Option Value) (x a ex : Str) (cx : Value) : Prop where
  ex : ∃ (g : Addr) (pg : Arguments) (bg : List Stmt) (sg : Scope) (dV kV doc pm cdv ct oc : Value) (an od : Option Addr) (osl : Array (Option Value)) (Ng : List Str) (p1 p2 p3 p4 p5 p6 p7 p8 p9 pa : Pos) (k1 k2 : Nat),
    mg x = some (.ref g) ∧ PySem.W.keepIn K (.ref g) = true ∧ K.lookup g = some ⟨oc, od, .func (PySem.W.fnOf x x pg bg sg dV kV doc pm an cdv ct), osl⟩ ∧ PySem.W.codeIn K cdv x = true ∧ Binds K (PySem.W.fnOf x x pg bg sg dV kV doc pm an cdv ct) [a] [] ∧ FnScope Ng [a] sg ∧ Ng[0]? = some a ∧ Vis sg a ∧
    bg = [.Try [.Expr (.Call (.Name a p1) [] [] p2) p3] [.ExceptHandler (some (.Name ex p4)) none [.Return (some (.Constant (.bool true) k1 p5)) p6] p7] [] [] p8, .Return (some (.Constant (.bool false) k2 p9)) pa] ∧ (envOfC x sg 0 0 .none).kindOf ex = some .globalImplicit ∧ mg ex = some cx ∧ (ex == ("__debug__" : Str)) = false ∧ (x == ("__debug__" : Str)) = false ∧ (a == ("__debug__" : Str)) = false ∧ (a == ("__classdict__" : Str)) = false
theorem gives_refused' {X : Cx} {Ng : List Str} {x : Str} {sg : Scope} {g : Addr} {cdg : Value} {bg : List Stmt} {a q ex : Str} {c : Value} {p1 p2 p3 p4 p5 p6 p7 p8 p9 pa : Pos} {k1 k2 : Nat}
    (hbg : bg = [.Try [.Expr (.Call (.Name a p1) [] [] p2) p3] [.ExceptHandler (some (.Name ex p4)) none [.Return (some (.Constant (.bool true) k1 p5)) p6] p7] [] [] p8, .Return (some (.Constant (.bool false) k2 p9)) pa]) (hc : ∀ s H, Names (cxOf C8.CX0 X.prog X.w X.K X.mg X.base Ng x sg g cdg X.A X.stack s H C8.E0).nox ex c) : LamX.GivesTo X Ng x sg g cdg bg a q (TTr X.K c) := by
  intro f c' s H Q tl call hc' tt
  subst hbg
  refine ⟨_, pss_cons (ps_try_only (Wout := fun _ _ _ _ => False) (c := c) rfl rfl (hc s H) LamX.takes0 (fun Wx pn xe tk po => pss_one (ps_expr (call Wx pn xe (fun cls d H' => ∀ σ', Wx cls d σ' H') p1 p2 tk fun cls d σ' H' k => k σ') rfl)) fun a oe cls d pn _ _ => pss_one (ps_ret pe_bl)) (pss_one (ps_ret pe_bl)), ?_⟩
  refine ⟨rfl, hc', tt _ _ (fun cls d H' h1 h2 σ' => ⟨true, h1, fun _ _ _ => h2, fun z => nomatch z⟩) fun v H' h => h⟩
theorem d_lamF {X : Cx} {W : Wd} {x a ex : Str} {c P : Addr} {k : Nat} {cx : Value} {params : Arguments} {body : Expr} {scope : Scope} {p lpos pos : Pos} {m : Nat → Option Bool} {f : EX} (G : LamF X.K X.mg x a ex cx) (hg : Gl X x)
    (TB : LamX.TabB X.base X.mg c P) (hcode : X.env.code = .ref c) (hT : W.tb = [(P, X.env.qual ++ ("<lambda>" : Str))]) (hr : Room (k + 2) X.A) (L : LamX.LamS X.env.scope scope) (hdef : defaultsOf params X.env = ([], []))
    (hbind : ∀ (q : Str) (cl : List (Str × Addr)) (pm cv ctv : Value), bindArgs (PySem.W.kla_fn "<lambda>" q params body scope cl pm cv ctv) ⟨[], []⟩ = pure []) (hmm : ∀ i b, m i = some b → PySem.W.exmOne X.K (.ref (W.cl i)) cx = some b)
    (hbody : ∀ (A : Around) (outer : List PySem.Env) (s : Shared) (H : Hp) (E : XK) (f' c' : Addr), Room k (A.deeper (LamX.lamEnv X scope s.heap.objs.size f' c')) → PD (LamX.lamCx X A outer s H E scope f' c') W body f) :
    PD X W (.Call (.Name x p) [.Lambda params body scope lpos] [] pos) (eLam m f) := by
  obtain ⟨g, pg, bg, sg, dV, kV, doc, pm, cdv, ct, oc, an, od, osl, Ng, p1, p2, p3, p4, p5, p6, p7, p8, p9, pa, k1, k2, h1, h2, h3, h4, h5, h6, h7, h8, h9, h10, h11, h12, h13, h14, h15⟩ := G.ex
  exact d_lam hg h1 h2 h3 h4 h5 h6 h7 h8 (gives_refused' h9 fun s H => ⟨h10, h12, .inl h11⟩) TB hcode hT hr L hdef hbind hmm hbody h13 h14 h15
/-- the end, where the law's own code object keeps an empty table that stands outside K -/
theorem law_walkT {l : PySem.W.OpenLaw} {q : Program} {loose : List Str} {XP : (Str → Option Value) → Heap → Prop} {YP : World → Heap → Prop} {d : DefRec} {K : Params → PySem.W.Frag} {k : Nat} {x : Str} {c P : Addr} {T : Str} (hn : l.most = some 63) (hdf : d.params.defaults = []) (hr : Room k callerA)
    (hY : ∀ (w : World) (h : Heap), YP w h → (K w.params).In h) (hP : ∀ (w : World) (h : Heap), YP w h → h.get? P = some { cls := .none, data := .fields #[] }) (hL : ∀ p : Params, (K p).lookup P = none) (hC : ∀ p : Params, PySem.W.codeHdIn (K p) c P = true)
    (F : ∀ (w : World) (mg : Str → Option Value) (fa : Addr) (h : Heap), (K w.params).In h → h.Ns mainGlobals mg → mg d.name = some (.ref fa) →
      ∃ fd : FuncData, (∀ (s : Shared) (u : Value), BindsTo s fd ⟨[u], []⟩ [(x, u)]) ∧ ∀ base : Heap, (K w.params).In base → base.Ns mainGlobals mg → LamX.TabB base mg c P → FnOk l.prog w (K w.params) mg base (L2.CX l.prog w) k fa fd [x] (spLaw (K w.params) [(P, T)])) :
    PySem.W.WalkO q loose XP YP l.row.toRowW d [] (fun f vs => PySem.call f vs) :=
  LamX.walk_ofTs (n := 63) (k := k) (x := x) (CX := fun w => L2.CX l.prog w) hn (by decide) hdf hr hY (fun w mg fa h Y KX G hm => by
    obtain ⟨fd, hb, hF⟩ := F w mg fa h KX G hm
    refine ⟨fd, [(c, P)], spLaw (K w.params) [(P, T)], fun p hp => ?_, fun p hp => ?_, fun p hp => ?_, hb, fun H a ns hl _ hT hS => ?_, fun base KX G TB => hF base KX G (TB (c, P) (List.mem_singleton.mpr rfl))⟩
    · rw [List.mem_singleton.mp hp]; exact hP w h Y
    · rw [List.mem_singleton.mp hp]; exact hL _
    · rw [List.mem_singleton.mp hp]; exact PySem.W.codeHd_of_K KX (hC _)
    · refine ⟨a, ns, rfl, hS, hl, fun p hp => ?_, fun _ => rfl⟩
      rw [List.mem_singleton.mp hp]
      exact LamX.TabS.nil (hT (c, P) (List.mem_singleton.mpr rfl)))
    fun _ _ _ _ _ ⟨_, _, _, _, _, _, _, _, _, _, _, _, z⟩ => z
end DL
end

section
set_option Elab.async false
set_option linter.all false
set_option autoImplicit false
set_option maxRecDepth 100000
set_option maxHeartbeats 1000000
/-! min(rows, key=lambda row: row[0]) -/
namespace DL
open PySem PySem.Spec L2
open PyProof.Rows
/-- the scope of a lambda with one parameter that reads nothing else -/
structure LamP (row : Str) (scope : Scope) : Prop where
  kind : scope.kind = .function
  co : scope.isCoroutine = false
  gen : scope.isGenerator = false
  nocell : ∀ y ∈ scope.names, y.2 ≠ .cell
  nofree : ∀ y ∈ scope.names, y.2 ≠ .free
  loc : scope.names.lookup row = some .local
  ndb : (row == ("__debug__" : Str)) = false
def lamPB (row : Str) (scope : Scope) : Bool := decide (scope.kind = .function) && !scope.isCoroutine && !scope.isGenerator && (scope.names.all fun y => !decide (y.2 = .cell) && !decide (y.2 = .free)) && decide (scope.names.lookup row = some .local) && !(row == ("__debug__" : Str))
theorem lamP_by {row : Str} {scope : Scope} (h : lamPB row scope = true) : LamP row scope := by
  unfold lamPB at h
  simp only [Bool.and_eq_true, Bool.not_eq_true', decide_eq_true_eq, decide_eq_false_iff_not, List.all_eq_true] at h
  obtain ⟨⟨⟨⟨⟨h1, h2⟩, h3⟩, h4⟩, h5⟩, h6⟩ := h
  exact ⟨h1, h2, h3, fun y hy => (h4 y hy).1, fun y hy => (h4 y hy).2, h5, h6⟩
section
variable {prog : Program} {w : World} {A : Around} {E : Value → Shared → Prop} {s : Shared}
/-- the lambda's run -/
theorem key_turn {f b c' : Addr} {row qual : Str} {params : Arguments} {scope : Scope} {p1 p2 p3 : Pos} {jj : Nat} {cl : List (Str × Addr)} {its : List Value} {k : Int} {t : Tok} {pm ctv : Value} {Q : Value → Shared → Prop} (hroom : A.depth < recursionLimit)
    (ho : s.heap.get? f = some (PySem.W.kla_obj "<lambda>" qual params (.Subscript (.Name row p1) (.Constant (.int 0) jj p2) p3) scope cl pm c' ctv)) (L : LamP row scope) (hb : IsTup s.heap b its.toArray) (h0 : its[0]? = some (.int k t)) (hz : its.length ≤ sizeLine) (hcode : s.heap.CodeRec (.ref c') qual) (lim : s.heap.NoLimit)
    (hbind : bindArgs (PySem.W.kla_fn "<lambda>" qual params (.Subscript (.Name row p1) (.Constant (.int 0) jj p2) p3) scope cl pm (.ref c') ctv) ⟨[.ref b], []⟩ = pure [(row, .ref b)])
    (h : ∀ h' tk, (∀ a o, s.heap.get? a = some o → h'.get? a = some o) → Q (.int k t) { s with heap := h', toks := tk }) :
    wpAny (model prog w) A (call (.ref f) [.ref b]) Q E s := by
  refine wpAny_call (PySem.W.kla_callFunE hroom ho rfl L.co L.gen rfl hcode ?_)
  rw [hbind]
  refine wpAny_pure (wpAny_newFunctionEnv L.nocell (fun y hy => by rw [List.mem_singleton.mp hy]; exact L.loc) (fun h₁ hns hsb => ⟨lim.fresh _ hsb, ?_⟩) L.kind)
  have kp : ∀ b o, s.heap.get? b = some o → h₁.get? b = some o := fun b o e => hsb.extBut b o (Nat.ne_of_lt (Heap.lt_size e)) (Heap.get?_push_of_some _ e)
  refine PySem.W.kla_codeExpr (PyProof.Rows.Subscript_ ?_)
  refine wpAny_Name (wpAny_loadName_local (v := .ref b) L.kind L.loc hns (by simp) ?_) L.ndb
  refine wpAny_Constant_int ?_
  have hb' : IsTup h₁ b its.toArray := by
    obtain ⟨o, e, r⟩ := hb
    exact ⟨o, kp _ _ e, r⟩
  have hl : 0 < its.length := (List.getElem?_eq_some_iff.mp h0).1
  have hn := line63
  refine subscriptTail_builtinR (x := .int k t) hb'.typeIs slot_tuple_getitem.lookup (getItem_tuple (j := 0) (Q := fun r s' => r = .int k t ∧ _) hb' (by omega) (by omega) ?_ (by simpa using h0) ⟨rfl, h _ _ kp⟩) (by rfl)
  rw [List.size_toArray]
  exact seqIndex_of (Int.le_refl 0) (by omega)
end
theorem kept_but {X : Cx} {pins : List (Addr × Obj)} {σ : L2.St} {H : Hp} {s : Shared} {h' : Heap} {tk : Nat} {m : Str → Option Value} (I : Inv X pins σ H s) (hn : s.heap.Ns X.env.locals m) (hn' : h'.Ns X.env.locals m) (kp : ∀ b o, b ≠ X.env.locals → s.heap.get? b = some o → h'.get? b = some o) :
    Inv X pins σ H { s with heap := h', toks := tk } := by
  refine I.step (g' := s.gens) (d' := s.drawn) (ch := []) (fun _ z => nomatch z) (fun b o hL _ _ e _ => kp b o hL e) (fun b o hL _ _ e _ => ⟨o.slots, kp b o hL e⟩) (fun _ _ _ _ n => n) (fun b o _ e => ?_) (fun _ _ e => e) (fun _ _ _ e => e) (fun _ ps e => ⟨#[], by simpa using e⟩) (fun m' hm => ?_) (fun b ob e => ?_) I.bare
  · by_cases hL : b = X.env.locals
    · obtain ⟨o', _, _, e', _⟩ := hn'
      exact ⟨o', by rw [hL]; exact e'⟩
    · exact ⟨o, kp b o hL e⟩
  · obtain ⟨o1, es1, ep1, a1, a2, a3, a4⟩ := hn
    obtain ⟨o2, es2, ep2, b1, b2, b3, b4⟩ := hm
    rw [a1] at b1
    cases b1
    rw [a2] at b2
    cases b2
    have : m' = m := funext fun x => (b4 x).symm.trans (a4 x)
    rw [this]
    exact hn'
  · have hf := I.free
    refine (I.hok b ob e).stay (fun c w' hc q => kp c w' (fun z => ?_) q) (fun _ q => q) fun _ _ q => q
    subst z
    rcases hc with hc | hc
    · rw [hc, e] at hf; cases hf
    · rw [hf] at hc; cases hc
/-- what stands in the heap besides the frame and the base -/
def rest (base h : Heap) (L : Addr) : List (Addr × Obj) := (List.range h.objs.size).filterMap fun b => if b = L then none else match base.get? b with
  | some _ => none
  | none => (match h.get? b with
    | some o => some (b, o)
    | none => none)
theorem rest_mem {base h : Heap} {L b : Addr} {o : Obj} (hL : b ≠ L) (hb : base.get? b = none) (h1 : h.get? b = some o) : (b, o) ∈ rest base h L := by
  unfold rest
  rw [List.mem_filterMap]
  refine ⟨b, List.mem_range.mpr (Heap.lt_size h1), ?_⟩
  rw [if_neg hL, hb, h1]
theorem rest_of {base h : Heap} {L : Addr} {p : Addr × Obj} (hp : p ∈ rest base h L) : h.get? p.1 = some p.2 ∧ p.1 ≠ L ∧ base.get? p.1 = none := by
  unfold rest at hp
  rw [List.mem_filterMap] at hp
  obtain ⟨b, _, e⟩ := hp
  split at e
  · cases e
  · rename_i hL
    split at e
    · cases e
    · rename_i hb
      split at e
      · rename_i o h1
        cases e
        exact ⟨h1, hL, hb⟩
      · cases e
/-- a reading: the least row by its first number, the first one of them -/
def kMinK (K : PySem.W.Frag) (T : List (Addr × Str)) (Q : VK) (v : V) (H1 : Hp) : Prop := LamX.Tabs T H1 ∧ ∃ (a : Addr) (vs : List V) (ks : Nat → Int), v = .ref a ∧ SqL K H1 a vs ∧ 0 < vs.length ∧
  (∀ i x, vs[i]? = some x → ∃ b xs, x = .ref b ∧ SqT K H1 b xs ∧ xs[0]? = some (.int (ks i))) ∧
  ∀ H2, LamX.ExtN H1 H2 → LamX.Tabs T H2 → ∀ i x, vs[i]? = some x → (∀ j, j < vs.length → ks i ≤ ks j ∧ (j < i → ks i < ks j)) → Q x H2
def tMinK (K : PySem.W.Frag) (T : List (Addr × Str)) (te : TE) : TE := fun σ H Q => te σ H (kMinK K T Q)
def oneK (k : V → Hp → Prop) : List V → Hp → Prop := fun vs H => match vs with
  | [v] => k v H
  | _ => False
theorem extN_sqL {K : PySem.W.Frag} {H H1 : Hp} {a : Addr} {xs : List V} (x : LamX.ExtN H H1) (h : SqL K H a xs) : SqL K H1 a xs := by
  rcases h with h | h
  · rcases h with h | ⟨o, h⟩
    · exact .inl (.inl (x a _ h fun _ z => by cases z))
    · exact .inl (.inr ⟨o, x a _ h fun _ z => by cases z⟩)
  · exact .inr h
theorem extN_sqT {K : PySem.W.Frag} {H H1 : Hp} {a : Addr} {xs : List V} (x : LamX.ExtN H H1) (h : SqT K H a xs) : SqT K H1 a xs := by
  rcases h with h | h
  · rcases h with h | ⟨o, h⟩
    · exact .inl (.inl (x a _ h fun _ z => by cases z))
    · exact .inl (.inr ⟨o, x a _ h fun _ z => by cases z⟩)
  · exact .inr h
section
variable {X : Cx}
theorem pe_minKey {T : List (Addr × Str)} {c P : Addr} {row : Str} {params : Arguments} {scope : Scope} {e : Expr} {te : TE} {p lpos kpos pos p1 p2 p3 : Pos} {jj : Nat} (hc : X.calm = true) (hg : Gl X "min") (hm : X.mg "min" = none) (ha : PE X e te)
    (TB : LamX.TabB X.base X.mg c P) (hcode : X.env.code = .ref c) (hmT : (P, X.env.qual ++ ("<lambda>" : Str)) ∈ T) (hu : ∀ p ∈ T, p.1 = P → p.2 = X.env.qual ++ ("<lambda>" : Str)) (hr : Room 1 X.A) (L : LamP row scope) (hdef : defaultsOf params X.env = ([], []))
    (hbind : ∀ (b : Addr) (q : Str) (cl : List (Str × Addr)) (pm cv ctv : Value), bindArgs (PySem.W.kla_fn "<lambda>" q params (.Subscript (.Name row p1) (.Constant (.int 0) jj p2) p3) scope cl pm cv ctv) ⟨[.ref b], []⟩ = pure [(row, .ref b)])
    (he0 : starEach [e] X.env = (false, eval e X.env) :: starEach [] X.env := by rfl) :
    PE X (.Call (.Name "min" p) [e] [⟨some "key", .Lambda params (.Subscript (.Name row p1) (.Constant (.int 0) jj p2) p3) scope lpos, kpos⟩] pos) (tMinK X.K T te) := by
  have he : backTo pos (starEach [e] X.env) = (false, eval e X.env) :: backTo pos (starEach [] X.env) := by rw [he0]; rfl
  have hpl : (backTo pos (starEach [e] X.env)).any (·.1) = false := by rw [he]; rfl
  refine ⟨fun pins s σ H Q I h => ?_⟩
  refine wpAny_Call_Name_kw (ld_blt I hg hm rfl ?_)
  refine PyProof.Rows.callWith_kw (thn ((pa_cons ha pa_nil he0).run pos pins s σ H (oneK (kMinK X.K T Q)) I h) fun us s1 ⟨vs, H1, I1, r1, q1⟩ => ?_) he hpl rfl rfl
  cases r1 with
  | nil => exact q1.elim
  | cons r t =>
    cases t with
    | cons _ _ => exact q1.elim
    | nil =>
      obtain ⟨T1, a, vs, ks, rfl, hs, hne, hks, hQ⟩ := q1
      cases r
      refine wpAny_evalAll_cons (wpAny_bind (LamX.lam_make2 I1 TB hcode hmT hu T1 hdef (fun y hy z => absurd z (L.nofree y hy)) fun f c' pm ctv H2 s2 I2 eN T2 hf hfn hfr hco => wpAny_bind (wpAny_standAt (wpAny_pure ?_))))
      refine wpAny_evalAll_nil ?_
      have hs2 := extN_sqL eN hs
      obtain ⟨its, rv, pl, hz⟩ := I2.list hs2
      obtain ⟨m, F2⟩ := I2.fr
      have kp : ∀ h, PyProof.Rows.Fr X.base X.env.locals h m → News X.base X.env.locals h (rest X.base s2.heap X.env.locals) → ∀ b o, b ≠ X.env.locals → s2.heap.get? b = some o → h.get? b = some o := fun h F N b o hb e => by
        cases eb : X.base.get? b with
        | some o' =>
          have := I2.bk b o' eb
          rw [e] at this
          cases this
          exact F.keep b o eb
        | none => exact (N (b, o) (rest_mem hb eb e)).1
      have neL : ∀ b o (its : Array Value) (n : Nat), s2.heap.get? b = some o → o.data = .seq its n → b ≠ X.env.locals := fun b o its n e1 e2 z => by
        obtain ⟨oL, es, ep, a1, a2, _⟩ := F2.ns
        rw [z, a1] at e1
        cases e1
        rw [a2] at e2
        cases e2
      have lens := rv.length
      have at_ : ∀ i v, its[i]? = some v → ∃ x, vs[i]? = some x ∧ RelV x v := fun i v hv => by
        have hi : i < vs.length := by rw [lens]; exact (List.getElem?_eq_some_iff.mp hv).1
        obtain ⟨w, e1, e2⟩ := rv.get (List.getElem?_eq_getElem hi)
        rw [hv] at e1
        cases e1
        exact ⟨_, List.getElem?_eq_getElem hi, e2⟩
      refine kmk_min (h₀ := X.base) (L := X.env.locals) (m := m) (news := rest X.base s2.heap X.env.locals) (vs := its) ks (I2.ok.hd hc) F2 (fun p hp => rest_of hp) (fun h F N => ?_) (by omega) (fun i v hv h tk own F' N' => ?_) fun i v h' tk' hv hb F' N' => ?_
      · obtain ⟨o, n, e, r1, r2, r3⟩ := pl
        have pl' : PlainL h a its.toArray := ⟨o, n, kp h F N a o (neL a o _ n e r3) e, r1, r2, r3⟩
        exact pl'.isList
      · have kp' := kp h F' fun p hp => N' p (List.mem_append_left _ hp)
        obtain ⟨x, hx, rx⟩ := at_ i v hv
        obtain ⟨b, xs, rfl, hq, h0⟩ := hks i x hx
        cases rx
        obtain ⟨its2, r2, tu, hz2⟩ := I2.tuple (extN_sqT eN hq)
        obtain ⟨w, ew, rw'⟩ := r2.get h0
        obtain ⟨t, rfl⟩ := rw'
        have l2 := r2.length
        have hcr : s2.heap.CodeRec (.ref c') (X.env.qual ++ ("<lambda>" : Str)) := by
          obtain ⟨⟨oc, vs', t', e1, e2, e3⟩, _, _⟩ := I2.hok c' _ hco
          exact ⟨c', oc, vs', t', rfl, e1, e2, e3⟩
        have cL : c' ≠ X.env.locals := fun z => by
          have := I2.free
          rw [← z, hco] at this
          cases this
        refine key_turn (its := its2) (k := ks i) (t := t) (by have := hr.dp; have e : X.A.in1.depth = X.A.depth := rfl; omega) (kp' f _ ?_ hf) L ?_ (by simpa using ew) (by omega) ?_ (I2.ok.mod.nolimit.keeps F'.keep) (hbind _ _ _ _ _ _) fun h2 tk2 hk => ?_
        · intro z
          obtain ⟨oL, es, ep, a1, a2, _⟩ := F2.ns
          rw [z, a1] at hf
          cases hf
          cases a2
        · obtain ⟨o, e, r1, n, r3⟩ := tu
          exact ⟨o, kp' b o (neL b o _ n e r3) e, r1, n, r3⟩
        · obtain ⟨c2, oc, vs', t', e0, e1, e2⟩ := hcr
          cases e0
          exact ⟨c', oc, vs', t', rfl, kp' c' oc cL e1, e2⟩
        · exact ⟨h2, tk2, t, rfl, rfl, ⟨F'.ns.keeps hk, fun b o e => hk _ _ (F'.keep b o e), F'.above⟩, fun p hp => ⟨hk _ _ (N' p hp).1, (N' p hp).2⟩⟩
      · obtain ⟨x, hx, rx⟩ := at_ i v hv
        exact ⟨x, H2, kept_but I2 F2.ns F'.ns (kp h' F' N'), rx, hQ H2 eN T2 i x hx fun j hj => hb j (by omega)⟩
end
/-! ### the data layer's rule -/
def fstI : D → Option Int
  | .tup (.int k :: _) => some k
  | _ => none
def fstsI : List D → Option (List Int)
  | [] => some []
  | d :: ds => match fstI d with
    | some k => (match fstsI ds with
      | some ks => some (k :: ks)
      | none => none)
    | none => none
/-- the first of the least -/
def pickK : Int → D → List Int → List D → D
  | _, d, [], _ => d
  | _, d, _, [] => d
  | k, d, j :: js, e :: es => if j < k then pickK j e js es else pickK k d js es
def dMinK0 : D → Option D
  | .lst (d :: ds) => match fstsI (d :: ds) with
    | some (k :: ks) => some (pickK k d ks ds)
    | _ => none
  | _ => none
theorem fsts_get : ∀ {ds : List D} {ks : List Int}, fstsI ds = some ks → ks.length = ds.length ∧ ∀ (i : Nat) (d : D), ds[i]? = some d → ∃ k, ks[i]? = some k ∧ fstI d = some k
  | [], _, h => by
    cases h
    exact ⟨rfl, fun i d e => by simp at e⟩
  | d :: ds, _, h => by
    unfold fstsI at h
    split at h
    · rename_i k hk
      split at h
      · rename_i ks hks
        cases h
        obtain ⟨h1, h2⟩ := fsts_get hks
        refine ⟨by simp [h1], fun i e he => ?_⟩
        cases i with
        | zero =>
          simp at he
          subst he
          exact ⟨k, rfl, hk⟩
        | succ i => exact h2 i e (by simpa using he)
      · cases h
    · cases h
/-- which one it is -/
theorem pickK_ok : ∀ (js : List Int) (es : List D) (k : Int) (d : D), js.length = es.length → (pickK k d js es = d ∧ ∀ j ∈ js, k ≤ j) ∨ ∃ (i : Nat) (m : Int), js[i]? = some m ∧ es[i]? = some (pickK k d js es) ∧ m < k ∧ (∀ j ∈ js, m ≤ j) ∧ ∀ (j : Nat) (x : Int), j < i → js[j]? = some x → m < x
  | [], es, k, d, _ => .inl ⟨by unfold pickK; rfl, fun _ h => nomatch h⟩
  | j :: js, [], k, d, h => by cases h
  | j :: js, e :: es, k, d, h => by
    have hl : js.length = es.length := by simpa using h
    unfold pickK
    split
    · rename_i hjk
      rcases pickK_ok js es j e hl with ⟨h1, h2⟩ | ⟨i, m, h1, h2, h3, h4, h5⟩
      · refine .inr ⟨0, j, rfl, by rw [h1]; rfl, hjk, fun x hx => ?_, fun _ _ hh => absurd hh (by omega)⟩
        rcases List.mem_cons.mp hx with z | z
        · omega
        · exact h2 x z
      · refine .inr ⟨i + 1, m, by simpa using h1, by simpa using h2, by omega, fun x hx => ?_, fun a x ha hx => ?_⟩
        · rcases List.mem_cons.mp hx with z | z
          · omega
          · exact h4 x z
        · cases a with
          | zero =>
            simp at hx
            omega
          | succ a => exact h5 a x (by omega) (by simpa using hx)
    · rename_i hjk
      rcases pickK_ok js es k d hl with ⟨h1, h2⟩ | ⟨i, m, h1, h2, h3, h4, h5⟩
      · refine .inl ⟨h1, fun x hx => ?_⟩
        rcases List.mem_cons.mp hx with z | z
        · omega
        · exact h2 x z
      · refine .inr ⟨i + 1, m, by simpa using h1, by simpa using h2, h3, fun x hx => ?_, fun a x ha hx => ?_⟩
        · rcases List.mem_cons.mp hx with z | z
          · omega
          · exact h4 x z
        · cases a with
          | zero =>
            simp at hx
            omega
          | succ a => exact h5 a x (by omega) (by simpa using hx)
theorem minK_ok {d : D} {x : D} (h : dMinK0 d = some x) : ∃ ds ks, d = .lst ds ∧ 0 < ds.length ∧ fstsI ds = some ks ∧ ∀ i, (i < ks.length ∧ ∀ j, j < ks.length → ks.getD i 0 ≤ ks.getD j 0 ∧ (j < i → ks.getD i 0 < ks.getD j 0)) → ds[i]? = some x := by
  unfold dMinK0 at h
  split at h
  · rename_i d0 ds
    split at h
    · rename_i k ks hk
      cases h
      have hl := (fsts_get hk).1
      have hl' : ks.length = ds.length := by simpa using hl
      refine ⟨d0 :: ds, k :: ks, rfl, by simp, hk, fun i ⟨hi, hb⟩ => ?_⟩
      rcases pickK_ok ks ds k d0 hl' with ⟨h1, h2⟩ | ⟨m, v, h1, h2, h3, h4, h5⟩
      · cases i with
        | zero => rw [h1]; rfl
        | succ i =>
          have b := (hb 0 (by simp)).2 (by omega)
          simp only [List.length_cons] at hi
          have hk2 : ks[i]? = some (ks.getD i 0) := by rw [List.getD_eq_getElem?_getD, List.getElem?_eq_getElem (by omega)]; rfl
          have := h2 _ (List.mem_of_getElem? hk2)
          simp at b
          simp at this
          omega
      · have hm : m < ks.length := (List.getElem?_eq_some_iff.mp h1).1
        have e0 : (k :: ks).getD (m + 1) 0 = v := by simp [List.getD_eq_getElem?_getD, h1]
        have b1 := hb (m + 1) (by simp; omega)
        rw [e0] at b1
        have hi2 : i = m + 1 := by
          rcases Nat.lt_trichotomy i (m + 1) with c | c | c
          · cases i with
            | zero =>
              have := b1.1
              simp at this
              omega
            | succ i =>
              have hk2 : ks[i]? = some ((k :: ks).getD (i + 1) 0) := by simp [List.getD_eq_getElem?_getD, List.getElem?_eq_getElem (show i < ks.length by omega)]
              have := h5 i _ (by omega) hk2
              have := b1.1
              omega
          · exact c
          · have b2 := b1.2 c
            cases i with
            | zero => omega
            | succ i =>
              simp only [List.length_cons] at hi
              have hk2 : ks[i]? = some ((k :: ks).getD (i + 1) 0) := by simp [List.getD_eq_getElem?_getD, List.getElem?_eq_getElem (show i < ks.length by omega)]
              have := h4 _ (List.mem_of_getElem? hk2)
              omega
        rw [hi2]
        simpa using h2
    · cases h
  · cases h
theorem d_minK {X : Cx} {W : Wd} {c P : Addr} {row : Str} {params : Arguments} {scope : Scope} {e : Expr} {fe : EX} {p lpos kpos pos p1 p2 p3 : Pos} {jj : Nat} (hg : Gl X "min") (hm : X.mg "min" = none) (ha : PD X W e fe)
    (TB : LamX.TabB X.base X.mg c P) (hcode : X.env.code = .ref c) (hT : W.tb = [(P, X.env.qual ++ ("<lambda>" : Str))]) (hr : Room 1 X.A) (L : LamP row scope) (hdef : defaultsOf params X.env = ([], []))
    (hbind : ∀ (b : Addr) (q : Str) (cl : List (Str × Addr)) (pm cv ctv : Value), bindArgs (PySem.W.kla_fn "<lambda>" q params (.Subscript (.Name row p1) (.Constant (.int 0) jj p2) p3) scope cl pm cv ctv) ⟨[.ref b], []⟩ = pure [(row, .ref b)])
    (hc : X.calm = true := by rfl) (he0 : starEach [e] X.env = (false, eval e X.env) :: starEach [] X.env := by rfl) :
    PD X W (.Call (.Name "min" p) [e] [⟨some "key", .Lambda params (.Subscript (.Name row p1) (.Constant (.int 0) jj p2) p3) scope lpos, kpos⟩] pos) (e1 dMinK0 fe) := by
  refine imp_E (pe_minKey (T := W.tb) hc hg hm ha TB hcode (by rw [hT]; exact List.mem_singleton.mpr rfl) (fun p hp _ => by rw [hT] at hp; rw [List.mem_singleton.mp hp]) hr L hdef hbind he0) ?_
  rintro σ H Q ⟨fr, F, ρ, n, r, n', R, e0, kk⟩
  rcases M.bind_any e0 with ⟨z, e1, rfl⟩ | ⟨d, n1, e1, h1⟩
  · refine ⟨fr, F, ρ, n, .error z, n', R, e1, ?_⟩
    exact kk
  refine ⟨fr, F, ρ, n, .ok d, n1, R, e1, fun F1 H1 v R1 s1 d1 => ?_⟩
  obtain ⟨x, q0⟩ := M.opt_any h1
  rw [q0] at h1
  obtain ⟨q1, q2⟩ := M.pure_any (a := x) h1
  subst q1
  subst q2
  obtain ⟨ds, ks, rfl, hne, hks, hx⟩ := minK_ok q0
  cases d1 with
  | lst b1 b2 =>
    rename_i a vs
    have hlen := b2.length
    obtain ⟨kl, kg⟩ := fsts_get hks
    refine ⟨R1.core.tabs, a, vs, fun i => ks.getD i 0, rfl, R1.core.sub.sqL (SqL.of b1), by omega, fun i u hu => ?_, fun H2 eN T2 i u hu hb => ?_⟩
    · obtain ⟨d, e2, e3⟩ := b2.get' hu
      obtain ⟨k, k1, k2⟩ := kg i d e2
      unfold fstI at k2
      split at k2
      · cases k2
        cases e3 with
        | tup c1 c2 =>
          cases c2 with
          | cons c3 c4 =>
            cases c3
            exact ⟨_, _, rfl, R1.core.sub.sqT c1, by simp [List.getD_eq_getElem?_getD, k1]⟩
      · cases k2
    · have hi : i < vs.length := (List.getElem?_eq_some_iff.mp hu).1
      obtain ⟨d, e2, e3⟩ := b2.get' hu
      have e4 := hx i ⟨by omega, fun j hj => hb j (by omega)⟩
      rw [e2] at e4
      cases e4
      exact kk F1 H2 u (R1.extN eN T2) s1 e3
end DL
end

section
set_option Elab.async false
set_option linter.all false
set_option autoImplicit false
set_option maxRecDepth 100000
set_option maxHeartbeats 1000000
/-! dicts with tuples as keys; an own dict lent to an expression; lists for oneself; deep in; index -/
namespace DL
open PySem PySem.Spec L2
/-! ### no dict within -/
mutual
def ndD : D → Bool
  | .tup xs => ndDs xs
  | .lst xs => ndDs xs
  | .dic _ _ => false
  | .dit _ _ => false
  | .obj _ _ vs => ndDs vs
  | .non => true
  | .bl _ => true
  | .int _ => true
  | .str _ => true
  | .drw => true
  | .scr => true
def ndDs : List D → Bool
  | [] => true
  | d :: ds => ndD d && ndDs ds
end
/-- the heap without a -/
def cutH (F : Hp) (a : Addr) : Hp := fun b => if b = a then none else F b
theorem cutH_ne {F : Hp} {a b : Addr} (h : b ≠ a) : cutH F a b = F b := if_neg h
theorem cutH_same {F : Hp} {a : Addr} : cutH F a a = none := if_pos rfl
def isDic (o : HO) : Prop := (∃ kvs, o = .dK kvs) ∨ ∃ kvs, o = .dT kvs
section
variable {K : PySem.W.Frag} {W : Wd} {dr : Option Addr} {F : Hp} {a : Addr} {o : HO}
theorem cut_get (ha : F a = some o) (hd : isDic o) {b : Addr} {u : HO} (h : F b = some u) (nu : ¬ isDic u) : cutH F a b = some u := by
  rw [cutH_ne]
  · exact h
  · intro z
    rw [z, ha] at h
    cases h
    exact nu hd
theorem cut_rd (ha : F a = some o) (hd : isDic o) {b : Addr} {u : HO} (h : Rd F b u) (nu : ¬ isDic u) : Rd (cutH F a) b u := by
  rcases h with h | ⟨x, h⟩
  · exact .inl (cut_get ha hd h nu)
  · refine .inr ⟨x, cut_get ha hd h ?_⟩
    rintro (⟨_, z⟩ | ⟨_, z⟩) <;> cases z
theorem nd_tup (xs : List V) : ¬ isDic (.tup xs) := by rintro (⟨_, z⟩ | ⟨_, z⟩) <;> cases z
theorem nd_lst (xs : List V) : ¬ isDic (.lst xs) := by rintro (⟨_, z⟩ | ⟨_, z⟩) <;> cases z
theorem nd_ins {c d : Addr} {xs} : ¬ isDic (.ins c d xs) := by rintro (⟨_, z⟩ | ⟨_, z⟩) <;> cases z
mutual
theorem den_cut (ha : F a = some o) (hd : isDic o) : ∀ {v : V} {d : D}, Den K W dr F v d → ndD d = true → Den K W dr (cutH F a) v d
  | _, _, .non, _ => .non
  | _, _, .bl b, _ => .bl b
  | _, _, .int b, _ => .int b
  | _, _, .str b, _ => .str b
  | _, _, .tup h r, e => .tup (h.imp (fun q => cut_rd ha hd q (nd_tup _)) id) (dens_cut ha hd r (by unfold ndD at e; exact e))
  | _, _, .lst h r, e => .lst (cut_get ha hd h (nd_lst _)) (dens_cut ha hd r (by unfold ndD at e; exact e))
  | _, _, .scr h, _ => .scr (h.imp (fun q => cut_rd ha hd q (nd_lst _)) id)
  | _, _, .dic _ _ _, e => by simp [ndD] at e
  | _, _, .dit _ _ _, e => by simp [ndD] at e
  | _, _, .obj l h r, e => .obj l (cut_get ha hd h nd_ins) (dens_cut ha hd r (by unfold ndD at e; exact e))
  | _, _, .drw h, _ => .drw h
theorem dens_cut (ha : F a = some o) (hd : isDic o) : ∀ {vs : List V} {ds : List D}, Dens K W dr F vs ds → ndDs ds = true → Dens K W dr (cutH F a) vs ds
  | _, _, .nil, _ => .nil
  | _, _, .cons h r, e => by
    unfold ndDs at e
    rw [Bool.and_eq_true] at e
    exact .cons (den_cut ha hd h e.1) (dens_cut ha hd r e.2)
end
end
/-- what the other slots may hold while a dict is lent -/
def ndIn : D → Bool
  | .lst ds => ndDs ds
  | .dic _ ds => ndDs ds
  | .dit _ ds => ndDs ds
  | .obj _ _ ds => ndDs ds
  | _ => false
def ndSl : Sl → Bool
  | .no => true
  | .val d => ndD d
  | .own d => ndIn d
theorem mden_cut {K : PySem.W.Frag} {W : Wd} {dr : Option Addr} {F H : Hp} {a b : Addr} {o : HO} {d : D} (ha : F a = some o) (hd : isDic o) (m : MDen K W dr F H b d) (e : ndIn d = true) : MDen K W dr (cutH F a) H b d := by
  cases d with
  | lst ds => obtain ⟨vs, q, r⟩ := m; exact ⟨vs, q, dens_cut ha hd r e⟩
  | dic ks ds => obtain ⟨vs, l, q, r⟩ := m; exact ⟨vs, l, q, dens_cut ha hd r e⟩
  | dit ks ds => obtain ⟨vs, l, q, r⟩ := m; exact ⟨vs, l, q, dens_cut ha hd r e⟩
  | obj c ks ds => obtain ⟨dx, vs, l, q, r⟩ := m; exact ⟨dx, vs, l, q, dens_cut ha hd r e⟩
  | non => exact m.elim
  | bl _ => exact m.elim
  | int _ => exact m.elim
  | str _ => exact m.elim
  | tup _ => exact m.elim
  | drw => exact m.elim
  | scr => exact m.elim
def dictD : D → Bool
  | .dic _ ds => ndDs ds
  | .dit _ ds => ndDs ds
  | _ => false
/-- the slots but the one at i hold no dict -/
def ndBut : Nat → List Sl → Bool
  | _, [] => true
  | 0, _ :: r => r.all ndSl
  | i + 1, s :: r => ndSl s && ndBut i r
theorem ndBut_get : ∀ {i j : Nat} {ρ : List Sl} {s : Sl}, ndBut i ρ = true → ρ[j]? = some s → j ≠ i → ndSl s = true
  | i, j, [], s, _, h, _ => by simp at h
  | 0, 0, _ :: _, _, _, _, n => absurd rfl n
  | 0, j + 1, x :: r, s, e, h, _ => by
    have e : r.all ndSl = true := e
    rw [List.all_eq_true] at e
    exact e s (List.mem_of_getElem? (by simpa using h))
  | i + 1, 0, x :: r, s, e, h, _ => by
    have e : (ndSl x && ndBut i r) = true := e
    rw [Bool.and_eq_true] at e
    simp at h
    subst h
    exact e.1
  | i + 1, j + 1, x :: r, s, e, h, n => by
    have e : (ndSl x && ndBut i r) = true := e
    rw [Bool.and_eq_true] at e
    exact ndBut_get (i := i) (j := j) e.2 (by simpa using h) (by omega)
/-- an own dict, lent to an expression that keeps nothing of it -/
def eLend (i : Nat) (f : EX) : EX := fun ρ n => match own? ρ i with
  | some d0 => if dictD d0 && ndBut i ρ then (match f (ρ.set i (.val d0)) n with
      | some (.ok d, n1) => if ndD d then some (.ok d, n1) else none
      | _ => none) else none
  | none => none
section
variable {X : Cx} {W : Wd}
theorem d_lend {i : Nat} {e : Expr} {f : EX} (h : PD X W e f) : PD X W e (eLend i f) := imp_E h fun σ H Q ⟨fr, F, ρ, n, r, n', R, e0, k⟩ => by
  unfold eLend at e0
  split at e0
  · rename_i d0 q
    split at e0
    · rename_i hc
      rw [Bool.and_eq_true] at hc
      obtain ⟨hdd, hnb⟩ := hc
      split at e0
      · rename_i d n1 ef
        split at e0
        · rename_i hnd
          cases e0
          have hi := own_some q
          obtain ⟨ad, s⟩ := R.slots
          obtain ⟨o1, o2, o3, o4, o5, o6⟩ := s.own i d0 hi
          have hO : isO d0 = false := by
            cases d0 <;> first | rfl | cases hdd
          have hx : fr.H0 (ad i) = none := by
            rcases o6 with z | z
            · rw [hO] at z; cases z.1
            · exact z.2
          obtain ⟨F1, s1, R1⟩ := R.freeze s hi hx
          have hlt : i < ρ.length := (List.getElem?_eq_some_iff.mp hi).1
          refine ⟨fr, F1, _, n, .ok d, n', R1, ef, fun F' H' v R' s' dv => ?_⟩
          -- the lent dict stands at ad i
          obtain ⟨ad', sl⟩ := R'.slots
          obtain ⟨w, w1, w2⟩ := sl.val i d0 (by simp [hlt])
          rw [o1] at w1
          injection w1 with w1
          injection w1 with w1
          subst w1
          obtain ⟨ad1, sl1⟩ := R1.slots
          obtain ⟨w', w1', w2'⟩ := sl1.val i d0 (by simp [hlt])
          rw [o1] at w1'
          injection w1' with w1'
          injection w1' with w1'
          subst w1'
          obtain ⟨o, ho⟩ := o5.there
          have hF1 : ∃ o, F1 (ad i) = some o ∧ isDic o := by
            cases d0 with
            | dic ks ds =>
              cases w2' with
              | dic l q1 q2 =>
                rcases q1 with q1 | ⟨x, q1⟩
                · exact ⟨_, q1, .inl ⟨_, rfl⟩⟩
                · obtain ⟨vs, l', e', r'⟩ := o5
                  have := R1.core.sub _ _ q1
                  rw [e'] at this
                  cases this
            | dit ks ds =>
              cases w2' with
              | dit l q1 q2 =>
                rcases q1 with q1 | ⟨x, q1⟩
                · exact ⟨_, q1, .inr ⟨_, rfl⟩⟩
                · obtain ⟨vs, l', e', r'⟩ := o5
                  have := R1.core.sub _ _ q1
                  rw [e'] at this
                  cases this
            | _ => cases hdd
          obtain ⟨o', hF1, hdo⟩ := hF1
          have hF' : F' (ad i) = some o' := s' _ _ hF1
          have c := R'.core
          have subF : Sub F (cutH F' (ad i)) := fun a u z => by
            rw [cutH_ne (fun y => by rw [y, o2] at z; cases z)]
            exact s' _ _ (s1 _ _ z)
          have core : Core X.K W fr (cutH F' (ad i)) H' n' := {
            sub := fun a u z => by
              unfold cutH at z
              split at z
              · cases z
              · exact c.sub _ _ z
            base := c.base
            f0 := R.core.f0.trans subF
            new := fun a u z z2 => by
              unfold cutH
              split
              · rfl
              · exact c.new a u z z2
            there := c.there
            draw := fun a z => by
              obtain ⟨z1, z2, z3⟩ := c.draw a z
              refine ⟨?_, z2, z3.imp (fun y => cut_rd hF' hdo y (nd_lst _)) id⟩
              unfold cutH
              split
              · rfl
              · exact z1
            ntF := fun a u z => by
              unfold cutH at z
              split at z
              · cases z
              · exact c.ntF a u z
            tabs := c.tabs }
          have mine : MDen X.K W fr.dr (cutH F' (ad i)) H' (ad i) d0 := by
            cases d0 with
            | dic ks ds =>
              cases w2 with
              | dic l q1 q2 =>
                rcases q1 with q1 | ⟨x, q1⟩
                · exact ⟨_, l, c.sub _ _ q1, dens_cut hF' hdo q2 hdd⟩
                · rw [hF'] at q1
                  cases q1
                  rcases hdo with ⟨_, z⟩ | ⟨_, z⟩ <;> cases z
            | dit ks ds =>
              cases w2 with
              | dit l q1 q2 =>
                rcases q1 with q1 | ⟨x, q1⟩
                · exact ⟨_, l, c.sub _ _ q1, dens_cut hF' hdo q2 hdd⟩
                · rw [hF'] at q1
                  cases q1
                  rcases hdo with ⟨_, z⟩ | ⟨_, z⟩ <;> cases z
            | _ => cases hdd
          have R2 : Rel X.K W fr (cutH F' (ad i)) H' σ ρ n' := by
            refine ⟨core, fun j => if j = i then ad i else ad' j, by have := sl.len; simpa using this, fun j e z => ?_, fun j e z => ?_, fun j l e e' z z' y => ?_⟩
            · have hj : j ≠ i := fun y => by rw [y, hi] at z; cases z
              obtain ⟨v', y1, y2⟩ := sl.val j e (by rw [List.getElem?_set_ne (Ne.symm hj)]; exact z)
              exact ⟨v', y1, den_cut hF' hdo y2 (ndBut_get hnb z hj)⟩
            · by_cases hj : j = i
              · subst hj
                rw [hi] at z
                cases z
                rw [if_pos rfl]
                exact ⟨o1, cutH_same, o3, o4, mine, o6⟩
              · rw [if_neg hj]
                obtain ⟨y1, y2, y3, y4, y5, y6⟩ := sl.own j e (by rw [List.getElem?_set_ne (Ne.symm hj)]; exact z)
                refine ⟨y1, ?_, y3, y4, mden_cut hF' hdo y5 (ndBut_get hnb z hj), y6⟩
                unfold cutH
                split
                · rfl
                · exact y2
            · have free : ∀ (j : Nat) (e : D), ρ[j]? = some (.own e) → j ≠ i → ad' j ≠ ad i := fun j e z hj y => by
                have := (sl.own j e (by rw [List.getElem?_set_ne (Ne.symm hj)]; exact z)).2.1
                rw [y, hF'] at this
                cases this
              by_cases hj : j = i
              · by_cases hl : l = i
                · omega
                · rw [if_pos hj, if_neg hl] at y
                  exact absurd y.symm (free l e' z' hl)
              · by_cases hl : l = i
                · rw [if_neg hj, if_pos hl] at y
                  exact absurd y (free j e z hj)
                · rw [if_neg hj, if_neg hl] at y
                  exact sl.inj j l e e' (by rw [List.getElem?_set_ne (Ne.symm hj)]; exact z) (by rw [List.getElem?_set_ne (Ne.symm hl)]; exact z') y
          exact k _ H' v R2 subF (den_cut hF' hdo dv hnd)
        · cases e0
      · cases e0
    · cases e0
  · cases e0
end
end DL
end

section
set_option Elab.async false
set_option linter.all false
set_option autoImplicit false
set_option maxRecDepth 100000
set_option maxHeartbeats 1000000
namespace DL
open PySem PySem.Spec L2
section
variable {X : Cx} {W : Wd} {a b : Expr} {fa fb : EX} {pos : Pos}
/-! ### a tuple for a key -/
def keysD : List D → Option (List Key)
  | [] => some []
  | d :: ds => match keyD d with
    | some k => (match keysD ds with
      | some ks => some (k :: ks)
      | none => none)
    | none => none
theorem keys_of {K : PySem.W.Frag} {dr : Option Addr} {F : Hp} : ∀ {vs : List V} {ds : List D} {ks : List Key}, Dens K W dr F vs ds → keysD ds = some ks → vs = ks.map kV
  | _, _, _, .nil, h => by cases h; rfl
  | _, _, _, .cons h1 h2, h => by
    unfold keysD at h
    split at h
    · rename_i k hk
      split at h
      · rename_i ks hks
        cases h
        rw [key_of h1 hk, keys_of h2 hks]
        rfl
      · cases h
    · cases h
def valT (x : D) (ys : List D) : Option D := match x with
  | .dit ks ds => if ys.length ≤ 8 then (match keysD ys with
    | some k => valD ks ds k
    | none => none) else none
  | _ => none
/-- a[k1, k2] of a dict with tuples as keys -/
def eIxT (fa : EX) (fs : EXs) : EX := fun ρ => M.bind (fa ρ) fun x => M.bind (fs ρ) fun ys => M.opt (valT x ys)
theorem d_ixT2 {es : List Expr} {fs : EXs} {kt} {p2 : Pos} (hu : X.A.units + 64 < cLine) (ha : PD X W a fa) (hb : PDs X W es fs) (hs : PlainIx (.Tuple es kt p2) := by exact fun _ _ => rfl) : PD X W (.Subscript a (.Tuple es kt p2) pos) (eIxT fa fs) :=
  imp_E (pe_ix (ix_dict (by omega)) ha (pe_tup hb) hs) fun σ H Q ⟨fr, F, ρ, n, r, n', R, e, k⟩ => by
    rcases M.bind_any e with ⟨z, e1, rfl⟩ | ⟨x, n1, e1, h⟩
    · exact ⟨fr, F, ρ, n, .error z, n', R, e1, k⟩
    refine ⟨fr, F, ρ, n, .ok x, n1, R, e1, fun F1 H1 v R1 s1 d1 => ?_⟩
    rcases M.bind_any h with ⟨z, e2, rfl⟩ | ⟨ys, n2, e2, h⟩
    · exact ⟨fr, F1, ρ, n1, .error z, n', R1, e2, KX.mono k s1⟩
    refine ⟨fr, F1, ρ, n1, .ok ys, n2, R1, e2, fun F2 H2 vs R2 s2 d2 => ?_⟩
    rcases r with z | d
    · exact (M.opt_err h).elim
    obtain ⟨e4, e5⟩ := M.opt_ok h
    subst e5
    have d3 := d1.mono (dr' := fr.dr) s2 fun _ z => z
    unfold valT at e4
    split at e4
    · rename_i ks ds
      split at e4
      · rename_i hl
        split at e4
        · rename_i key hk
          have hv := keys_of d2 hk
          cases d3 with
          | dit l h1 h2 =>
            obtain ⟨w, q1, q2⟩ := val_zip l h2 e4
            refine ⟨?_, fun p hp => ?_⟩
            · rw [d2.length]
              exact Nat.le_trans hl (by show 8 ≤ sizeLine; decide)
            · have s3 : Sub F2 (upd F2 p (.tup vs)) := (Sub.refl F2).new (R2.core.noF hp)
              have R3 := R2.fresh (o := .tup vs) hp
              refine ⟨_, w, rfl, .inr ⟨_, key, p, R3.core.sub.rd (s3.rd h1), rfl, by rw [upd_same, hv], q1.symm⟩, k _ _ w R3 ((s1.trans s2).trans s3) (q2.mono s3 fun _ z => z)⟩
        · cases e4
      · cases e4
    · cases e4
def dPutT (ys : List D) (d : D) : D → Option D
  | .dit ks ds => (match keysD ys with
    | some k => if ks.length < sizeLine ∧ ys.length ≤ 8 then some (.dit (dkKs ks k) (dkDs ks ds k d)) else none
    | none => none)
  | _ => none
/-- x[k1, k2] = e, x one's own -/
def sPutT (i : Nat) (fs : EXs) (fv : EX) : SX := fun ρ => M.bind (fv ρ) fun d => M.bind (M.opt (own? ρ i)) fun _ => M.bind (fs ρ) fun ys => M.bind (M.opt ((own? ρ i).bind (dPutT ys d))) fun o => M.pure (.nx (ρ.set i (.own o)))
theorem S_dputT {i : Nat} {o value : Expr} {es : List Expr} {fs : EXs} {fv : EX} {kt} {p2 p3 : Pos} (hu : X.A.units + 64 < cLine) (ho : PE X o (tVar i)) (hk : PDs X W es fs) (hv : PD X W value fv) (hs : swapsWith value (some (.Subscript o (.Tuple es kt p3) p2)) pos.line X.env = pure false := by rfl) :
    PDS X W (.Assign [.Subscript o (.Tuple es kt p3) p2] value pos) (sPutT i fs fv) := imp_S (ps_dput (by omega) ho (pe_tup hk) hv hs) fun E σ H ⟨fr, F, ρ, n, r, n', R, e, k⟩ => by
  rcases M.bind_any e with ⟨z, e1, rfl⟩ | ⟨d, n1, e1, h0⟩
  · exact ⟨fr, F, ρ, n, .error z, n', R, e1, KS.x k⟩
  rcases M.bind_any h0 with ⟨z, e1, rfl⟩ | ⟨od0, n1', e0, h1⟩
  · exact (M.opt_err e1).elim
  obtain ⟨q0, q1⟩ := M.opt_ok e0
  subst q1
  refine ⟨fr, F, ρ, n, .ok d, _, R, e1, fun F1 H1 v R1 s1 d1 => ?_⟩
  obtain ⟨ad0, s0⟩ := R1.slots
  obtain ⟨z1, _⟩ := s0.own i _ (own_some q0)
  refine ⟨_, z1, ?_⟩
  rcases M.bind_any h1 with ⟨z, e2, rfl⟩ | ⟨ys, n2, e2, h2⟩
  · exact ⟨fr, F1, ρ, _, .error z, n', R1, e2, KX.mono (KS.x k) s1⟩
  refine ⟨fr, F1, ρ, _, .ok ys, n2, R1, e2, fun F2 H2 vs R2 s2 d2 => ?_⟩
  rcases M.bind_any h2 with ⟨z, e3, rfl⟩ | ⟨dd, n3, e3, h3⟩
  · exact (M.opt_err e3).elim
  obtain ⟨e4, e5⟩ := M.opt_ok e3
  obtain ⟨e6, e7⟩ := M.pure_any h3
  subst e5 e6 e7
  cases q : own? ρ i with
  | none => rw [q] at e4; cases e4
  | some od =>
    rw [q] at e4
    have e4 : dPutT ys d od = some dd := e4
    have hi := own_some q
    unfold dPutT at e4
    split at e4
    · rename_i ks ds
      split at e4
      · rename_i key hk
        split at e4
        · rename_i hl
          cases e4
          have hv := keys_of d2 hk
          refine ⟨?_, fun p hp => ?_⟩
          · rw [d2.length]
            exact Nat.le_trans hl.2 (by show 8 ≤ sizeLine; decide)
          · have s3 : Sub F2 (upd F2 p (.tup vs)) := (Sub.refl F2).new (R2.core.noF hp)
            have R3 := R2.fresh (o := .tup vs) hp
            obtain ⟨ad, s⟩ := R3.slots
            obtain ⟨a1, a2, a3, a4, ⟨us, a5, a6, a7⟩, a8⟩ := s.own i _ hi
            have ea : ad i = ad0 i := by rw [a1] at z1; injection z1 with z1; injection z1 with z1; injection z1
            have d1' := (d1.mono (dr' := fr.dr) s2 fun _ z => z).mono (dr' := fr.dr) s3 fun _ z => z
            refine ⟨ad i, _, by rw [ea], .inr ⟨_, key, p, a6, rfl, by rw [upd_same, hv], by rw [List.length_zip, a5, Nat.min_self, ← a5]; exact hl.1, rfl⟩, ?_⟩
            rw [put_zip a5]
            exact k _ _ _ (R3.change s hi ⟨_, put_len a5, upd_same, dkDs_dens d1' a7⟩ rfl) ((s1.trans s2).trans s3)
        · cases e4
      · cases e4
    · cases e4
/-- x, y = {}, {} -/
def sOwn2 (i j : Nat) (d e : D) : SX := fun ρ => M.pure (.nx ((ρ.set i (.own d)).set j (.own e)))
theorem S_dit2 {i j : Nat} {x y : Str} {px py pt p1 p2 : Pos} {kt k2 pt2} (hc : X.calm = true) (hN : X.N.Nodup) (hi : X.N[i]? = some x) (hj : X.N[j]? = some y) (hij : i ≠ j) (hx : X.env.scope.names.lookup x = some .local) (hy : X.env.scope.names.lookup y = some .local)
    (hw : swappedStores [.Tuple [.Name x px, .Name y py] kt pt] (.Tuple [.Dict [] [] p1, .Dict [] [] p2] k2 pt2) X.env = pure (some [x, y])) (hs : swapsWithSole [.Tuple [.Name x px, .Name y py] kt pt] (.Tuple [.Dict [] [] p1, .Dict [] [] p2] k2 pt2) pos.line X.env = pure false := by rfl) :
    PDS X W (.Assign [.Tuple [.Name x px, .Name y py] kt pt] (.Tuple [.Dict [] [] p1, .Dict [] [] p2] k2 pt2) pos) (sOwn2 i j (.dit [] []) (.dit [] [])) := imp_S (ps_par hc hN hi hj hij hx hy (pa_cons pe_dnewT (pa_cons pe_dnewT pa_nil)) hw hs) fun E σ H ⟨fr, F, ρ, n, r, n', R, e, k⟩ => by
  rcases r with z | o
  · exact (M.pure_err e).elim
  obtain ⟨b1, b2⟩ := M.pure_ok e
  subst b1 b2
  intro p hp p' hp'
  refine ⟨_, _, rfl, ?_⟩
  have R1 := R.setOwn (i := i) hp rfl (d := .dit [] []) ⟨[], rfl, upd_same, .nil⟩
  exact k F _ _ (R1.setOwn (i := j) hp' rfl ⟨[], rfl, upd_same, .nil⟩) (Sub.refl _)
end
end DL
end

section
set_option Elab.async false
set_option linter.all false
set_option autoImplicit false
set_option maxRecDepth 100000
set_option maxHeartbeats 1000000
/-! lists of one's own out of comprehensions and sums; deep in; index -/
namespace DL
open PySem PySem.Spec L2
/-- an object of one's own is left out of the heap -/
theorem Rel.dropH {K : PySem.W.Frag} {W : Wd} {fr : Fr} {F H : Hp} {σ : St} {ρ : Env} {n : Int} (r : Rel K W fr F H σ ρ n) {p : Addr} {xs : List V} (h0 : H p = some (.lst xs)) (h1 : F p = none) (h2 : fr.H0 p = none) (h3 : fr.dr ≠ some p) (h4 : NoOwn p σ ρ) : Rel K W fr F (cutH H p) σ ρ n := by
  obtain ⟨ad, s⟩ := r.slots
  have c := r.core
  have kp : ∀ a u, a ≠ p → H a = some u → cutH H p a = some u := fun a u ne q => by rw [cutH_ne ne]; exact q
  refine ⟨?_, ad, s.len, s.val, fun j e q => ?_, s.inj⟩
  · exact {
      sub := fun a u q => kp a u (ne_of_none q h1) (c.sub _ _ q)
      base := fun a u q q2 q3 => kp a u (ne_of_none q h2) (c.base a u q q2 q3)
      f0 := c.f0
      new := c.new
      there := fun a u q => by
        obtain ⟨o', e, nt⟩ := c.there a u q
        exact ⟨o', kp a o' (ne_of_none q h2) e, nt⟩
      draw := fun a e => by
        obtain ⟨q1, q2, q3⟩ := c.draw a e
        have ne : a ≠ p := fun z => h3 (by rw [← z]; exact e)
        exact ⟨q1, kp a _ ne q2, q3⟩
      ntF := c.ntF
      tabs := tabs_keep c.tabs fun a u q sd => by
        refine kp a u (fun z => ?_) q
        subst z
        rw [h0] at q
        cases q
        rcases sd with ⟨_, z⟩ | ⟨_, z⟩ <;> cases z }
  · obtain ⟨q1, q2, q3, q4, q5, q6⟩ := s.own j e q
    have ne : ad j ≠ p := fun z => h4 j e q (by rw [q1, z])
    exact ⟨q1, q2, q3, q4, q5.mono (Sub.refl _) (fun u z => kp _ u ne z), q6⟩
section
variable {X : Cx} {W : Wd}
def nComp (vs : List Nat) (g : GX) (it : IX) (t : TX) (f : EX) : EXs := fun ρ => M.bind (it ρ) fun ds => M.bind (M.calm (compD (compB vs g t f ρ) ds)) fun ys => M.opt (if gz ys then some ys else none)
theorem d_tLcN {vs : List Nat} {tg : TG} {g : GX} {is : List Nat} {it : IX} {t : TX} {f : EX} (hg : GOk X.K W tg g is) (hv : ∀ i ∈ is, i ∈ vs) {σ : St} {H : Hp} {Q : VK} (h : tDN X W (nComp vs g it t f) σ H Q) : tLc (tI X W it) tg (tTk X.K W t) (tDk X.K W f) vs σ H Q := by
  obtain ⟨fr, F, ρ, n, r, n', R, e, k⟩ := h
  rcases r with z | d
  · rcases M.bind_err e with e1 | ⟨ds, n1, e1, h⟩
    · exact ⟨fr, F, ρ, n, .error z, n', R, e1, k⟩
    · rcases M.bind_err h with h | ⟨_, _, _, h⟩
      · exact (M.calm_err h).elim
      · exact (M.opt_err h).elim
  obtain ⟨ds, n1, e1, ha⟩ := M.bind_ok e
  obtain ⟨zs, n2, e2, hb⟩ := M.bind_ok ha
  obtain ⟨e3, e4⟩ := M.opt_ok hb
  replace e2 := M.calm_ok e2
  obtain ⟨e5, hz⟩ : zs = d ∧ zs.length ≤ sizeLine := by
    split at e3
    · rename_i q
      cases e3
      exact ⟨rfl, of_decide_eq_true q⟩
    · cases e3
  clear ha hb e3
  subst e4 e5
  refine ⟨fr, F, ρ, n, .ok ds, n1, R, e1, fun F1 H1 J R1 s1 ok => fun p hp => ?_⟩
  refine ⟨fun i m H' => m = ds.length - i ∧ i ≤ ds.length ∧ ∃ F' n'' acc dacc ys, Rel X.K W fr F' H' σ ρ n'' ∧ Sub F1 F' ∧ F' p = none ∧ H' p = some (.lst acc) ∧ Dens X.K W fr.dr F' acc dacc ∧ compD (compB vs g t f ρ) (ds.drop i) n'' = some (.ok ys, n') ∧ zs = dacc ++ ys,
    ⟨ds.length, by simp, Nat.zero_le _, F1, n1, [], [], zs, ?_, Sub.refl _, R1.core.noF hp, upd_same, .nil, e2, rfl⟩, ?_⟩
  · exact R1.other (R1.core.noF hp) (R1.core.noH0 hp) (R1.core.ndr hp) (R1.noOwn hp) (sd_no hp)
  have hH0 := R1.core.noH0 hp
  have hdr := R1.core.ndr hp
  have hno := R1.noOwn hp
  rintro i m H2 ⟨rfl, hi, F2, m2, acc, dacc, ys, R2, s2, f2, a2, d2, c2, q2⟩
  have RI : Rel X.K W (fr.at F2 H2) F2 H2 (wipe σ vs) (hide (wipeD ρ vs)) m2 := (R2.wipe vs).inner
  by_cases hlt : i < ds.length
  · refine .inr ?_
    rw [List.drop_eq_getElem_cons hlt] at c2
    obtain ⟨y, n3, c3, hc⟩ := M.bind_ok c2
    obtain ⟨yr, n4, c4, hd⟩ := M.bind_ok hc
    obtain ⟨c5, c6⟩ := M.pure_ok hd
    clear hc hd
    subst c6
    obtain ⟨ρ1, n5, b1, hb1⟩ := M.bind_ok c3
    obtain ⟨b2, b3⟩ := M.opt_ok b1
    obtain ⟨b, n6, b4, hb2⟩ := M.bind_ok hb1
    clear hb1 b1 c3
    subst b3
    obtain ⟨g1, g2⟩ := (ok (fr.at F2 H2) F2 H2 _ _ _ i rfl RI s2).1 ds[i] (by simp [hlt])
    refine ⟨g1, fun H' => ∃ F' n'' acc dacc ys, Rel X.K W fr F' H' σ ρ n'' ∧ Sub F1 F' ∧ F' p = none ∧ H' p = some (.lst acc) ∧ Dens X.K W fr.dr F' acc dacc ∧ compD (compB vs g t f ρ) (ds.drop (i + 1)) n'' = some (.ok ys, _) ∧ zs = dacc ++ ys, fun H' q => ⟨_, by omega, rfl, hlt, q⟩, fun x H' yl => ?_⟩
    obtain ⟨F3, R3, s3, d3⟩ := g2 x H' yl
    refine hg (fr.at F2 H2) F3 H' _ _ ρ1 _ x _ _ R3 d3 b2 fun σ3 R4 w4 => ⟨(w4 vs hv).trans (wipe_wipe σ vs), ?_⟩
    refine ⟨fr.at F2 H2, F3, ρ1, _, b, n6, R4, b4, fun F5 H5 R5 s5 => ?_⟩
    cases b with
    | true =>
      rw [if_pos rfl]
      obtain ⟨z, n7, b5, hb3⟩ := M.bind_ok hb2
      obtain ⟨b6, b7⟩ := M.pure_ok hb3
      clear hb2 hb3
      subst b6 b7
      refine ⟨fr.at F2 H2, F5, ρ1, n6, z, _, R5, b5, fun F6 H6 v R6 s6 d6 => ?_⟩
      have a6 : H6 p = some (.lst acc) := R6.core.base p _ (mask_of a2) hdr fun z => z
      have f6 : F6 p = none := R6.core.new p _ (mask_of a2) f2
      have s26 : Sub F2 F6 := R6.core.f0
      refine ⟨acc, a6, ?_, F6, _, acc ++ [v], dacc ++ [z], yr, (R2.back R6.core).other f6 hH0 hdr hno (sd_of a6), s2.trans s26, f6, upd_same, (d2.mono s26 fun _ z => z).append (.cons d6 .nil), c4, ?_⟩
      · have l1 := d2.length
        have l2 : zs.length = dacc.length + ys.length := by rw [q2, List.length_append]
        have l3 : ys.length = yr.length + 1 := by rw [← c5]; simp
        omega
      · rw [q2, ← c5]; simp
    | false =>
      rw [if_neg Bool.false_ne_true]
      obtain ⟨b6, b7⟩ := M.pure_ok hb2
      clear hb2
      subst b6 b7
      have a6 : H5 p = some (.lst acc) := R5.core.base p _ (mask_of a2) hdr fun z => z
      have f6 : F5 p = none := R5.core.new p _ (mask_of a2) f2
      have s26 : Sub F2 F5 := R5.core.f0
      exact ⟨F5, _, acc, dacc, yr, R2.back R5.core, s2.trans s26, f6, a6, d2.mono s26 fun _ z => z, c4, by rw [q2, ← c5]⟩
  · have ei : i = ds.length := by omega
    refine .inl ⟨(ok (fr.at F2 H2) F2 H2 _ _ _ i rfl RI s2).2 ei, ?_⟩
    rw [ei, List.drop_length] at c2
    obtain ⟨a1, a3⟩ := M.pure_ok c2
    subst a1 a3
    have R7 := R2.dropH a2 f2 hH0 hdr hno
    have q3 : zs = dacc := by rw [q2, List.append_nil]
    have ez : upd (cutH H2 p) p (.lst acc) = H2 := funext fun b => by
      by_cases hb : b = p
      · rw [hb, upd_same, a2]
      · rw [upd_ne hb, cutH_ne hb]
    have := k F2 (cutH H2 p) acc R7 (s1.trans s2) (by rw [q3]; exact d2) p cutH_same
    rw [ez] at this
    exact this
theorem n_comp {vs : List Nat} {elt tg iter : Expr} {ifs : List Expr} {scope : Scope} {own : List (Str × Nat)} {pos : Pos} {t : TG} {g : GX} {is : List Nat} {it : IX} {tt : TX} {f : EX} (hc : X.calm = true) (hN : X.N.Nodup) (hi : PDI X W tg iter it) (ok : BlkOk X.N X.env.scope scope own)
    (hg : ∀ (s : Shared) (H : Hp) (C : Addr) (cl : List (Str × Addr)) (fp : List Addr), PG (X.blk s H scope (compEnvC scope cl C X.env) fp) tg t) (hq : GOk X.K W t g is) (hv : ∀ i ∈ is, i ∈ vs)
    (ht : ∀ (s : Shared) (H : Hp) (C : Addr) (cl : List (Str × Addr)) (fp : List Addr), PTs (X.blk s H scope (compEnvC scope cl C X.env) fp) ifs (tT (X.blk s H scope (compEnvC scope cl C X.env) fp) W tt))
    (he : ∀ (s : Shared) (H : Hp) (C : Addr) (cl : List (Str × Addr)) (fp : List Addr), PD (X.blk s H scope (compEnvC scope cl C X.env) fp) W elt f) (hs : ∀ x, foldedSetIterable iter X.env x = pure x := by intro _; rfl) (hvs : own.map (·.2) = vs := by rfl) :
    PE X (.ListComp elt [⟨tg, iter, ifs, 0⟩] scope pos) (tDN X W (nComp vs g it tt f)) := by
  subst hvs
  exact imp_E (pe_lc (tt := tTk X.K W tt) (te := tDk X.K W f) hc hN hi ok hg (fun s H C cl fp => tsk (ht s H C cl fp)) (fun s H C cl fp => dk (he s H C cl fp)) hs) fun _ _ _ h => d_tLcN hq hv h
theorem S_ownComp {vs : List Nat} {i : Nat} {y : Str} {py : Pos} {elt tg iter : Expr} {ifs : List Expr} {scope : Scope} {own : List (Str × Nat)} {pos spos : Pos} {t : TG} {g : GX} {is : List Nat} {it : IX} {tt : TX} {f : EX} (hc : X.calm = true) (hN : X.N.Nodup) (hy : X.N[i]? = some y) (hyl : X.env.scope.names.lookup y = some .local)
    (hsw : swapsWith (.ListComp elt [⟨tg, iter, ifs, 0⟩] scope pos) (some (.Name y py)) spos.line X.env = pure true) (hi : PDI X W tg iter it) (ok : BlkOk X.N X.env.scope scope own)
    (hg : ∀ (s : Shared) (H : Hp) (C : Addr) (cl : List (Str × Addr)) (fp : List Addr), PG (X.blk s H scope (compEnvC scope cl C X.env) fp) tg t) (hq : GOk X.K W t g is) (hv : ∀ i ∈ is, i ∈ vs)
    (ht : ∀ (s : Shared) (H : Hp) (C : Addr) (cl : List (Str × Addr)) (fp : List Addr), PTs (X.blk s H scope (compEnvC scope cl C X.env) fp) ifs (tT (X.blk s H scope (compEnvC scope cl C X.env) fp) W tt))
    (he : ∀ (s : Shared) (H : Hp) (C : Addr) (cl : List (Str × Addr)) (fp : List Addr), PD (X.blk s H scope (compEnvC scope cl C X.env) fp) W elt f) (hs : ∀ x, foldedSetIterable iter X.env x = pure x := by intro _; rfl) (hvs : own.map (·.2) = vs := by rfl) :
    PDS X W (.Assign [.Name y py] (.ListComp elt [⟨tg, iter, ifs, 0⟩] scope pos) spos) (sOwnN i (nComp vs g it tt f)) := by
  subst hvs
  refine imp_S (ps_setLc (tt := tTk X.K W tt) (te := tDk X.K W f) hc hN hy hyl hsw hi ok hg (fun s H C cl fp => tsk (ht s H C cl fp)) (fun s H C cl fp => dk (he s H C cl fp)) hs) fun E σ H ⟨fr, F, ρ, n, r, n', R, e, k⟩ => ?_
  rcases M.bind_any e with ⟨z, e1, rfl⟩ | ⟨ds, n1, e1, h⟩
  · exact d_tLcN hq hv ⟨fr, F, ρ, n, .error z, n', R, e1, KS.x k⟩
  obtain ⟨q1, q2⟩ := M.pure_any h
  subst q1 q2
  exact d_tLcN hq hv ⟨fr, F, ρ, n, .ok ds, _, R, e1, fun F1 H1 vs R1 s1 d1 p hp => k F1 _ _ (R1.setOwn hp rfl ⟨vs, upd_same, d1⟩) s1⟩
/-- a + b of lists -/
def catL (x y : D) : Option (List D) := match x, y with
  | .lst xs, .lst ys => if gz (xs ++ ys) then some (xs ++ ys) else none
  | _, _ => none
def nAdd (fa fb : EX) : EXs := fun ρ => M.bind (fa ρ) fun x => M.bind (fb ρ) fun y => M.opt (catL x y)
theorem n_add {a b : Expr} {fa fb : EX} {pos : Pos} (ha : PD X W a fa) (hb : PD X W b fb) : PE X (.BinOp a .Add b pos) (tDN X W (nAdd fa fb)) := imp_E (pe_op op_cat ha hb) fun σ H Q ⟨fr, F, ρ, n, r, n', R, e, k⟩ => by
  rcases M.bind_any e with ⟨z, e1, rfl⟩ | ⟨x, n1, e1, h⟩
  · exact ⟨fr, F, ρ, n, .error z, n', R, e1, k⟩
  refine ⟨fr, F, ρ, n, .ok x, n1, R, e1, fun F1 H1 v R1 s1 d1 => ?_⟩
  rcases M.bind_any h with ⟨z, e2, rfl⟩ | ⟨y, n2, e2, h⟩
  · exact ⟨fr, F1, ρ, n1, .error z, n', R1, e2, KX.mono k s1⟩
  refine ⟨fr, F1, ρ, n1, .ok y, n2, R1, e2, fun F2 H2 w R2 s2 d2 => ?_⟩
  rcases r with z | d
  · exact (M.opt_err h).elim
  obtain ⟨e4, e5⟩ := M.opt_ok h
  subst e5
  have d3 := d1.mono (dr' := fr.dr) s2 fun _ z => z
  unfold catL at e4
  split at e4
  · split at e4
    · rename_i hz
      cases e4
      cases d3 with
      | lst h1 h2 =>
        cases d2 with
        | lst h3 h4 =>
          refine ⟨_, _, _, _, rfl, rfl, R2.core.sub _ _ h1, R2.core.sub _ _ h3, ?_, fun p hp => k F2 H2 _ R2 (s1.trans s2) (h2.append h4) p hp⟩
          have := of_decide_eq_true hz
          rw [List.length_append] at this
          rw [h2.length, h4.length]
          exact this
    · cases e4
  · cases e4
/-! ### in, of lists of anything -/
def inP (x y : D) : Option Bool := match toPy x, y with
  | some p, .lst ys => (match toPys ys with
    | some ps => if SeqAt.shaped p && SeqAt.shaped (.list ps) then some (ps.any fun z => PyData.eqv z p) else none
    | none => none)
  | _, _ => none
def dInD (x y : D) : Option D := match inP x y with
  | some b => some (.bl b)
  | none => none
def dNiD (x y : D) : Option D := match inP x y with
  | some b => some (.bl (!b))
  | none => none
theorem inP_ok {x y : D} {b : Bool} (h : inP x y = some b) : ∃ p ys ps, toPy x = some p ∧ y = .lst ys ∧ toPys ys = some ps ∧ SeqAt.shaped p = true ∧ SeqAt.shaped (.list ps) = true ∧ b = ps.any fun z => PyData.eqv z p := by
  unfold inP at h
  split at h
  · rename_i p ys hp
    split at h
    · rename_i ps hps
      split at h
      · rename_i hs
        rw [Bool.and_eq_true] at hs
        cases h
        exact ⟨p, ys, ps, hp, rfl, hps, hs.1, hs.2, rfl⟩
      · cases h
    · cases h
  · cases h
theorem q_inD {K : PySem.W.Frag} : Op2 K W (rInD K) dInD := by
  intro fr F H σ ρ n x y d v u Q R dx dy h k
  unfold dInD at h
  split at h
  · cases h
    obtain ⟨p, ys, ps, h1, rfl, h3, h4, h5, rfl⟩ := inP_ok ‹_›
    cases dy with
    | lst q1 q2 => exact ⟨p, ps, dp_of R.core.sub dx h1, .lst (SqL.of (R.core.sub _ _ q1)) (dps_of R.core.sub q2 h3), h4, h5, k F H _ R (Sub.refl _) (.bl _)⟩
  · cases h
theorem q_niD {K : PySem.W.Frag} : Op2 K W (rNotInD K) dNiD := by
  intro fr F H σ ρ n x y d v u Q R dx dy h k
  unfold dNiD at h
  split at h
  · cases h
    obtain ⟨p, ys, ps, h1, rfl, h3, h4, h5, rfl⟩ := inP_ok ‹_›
    cases dy with
    | lst q1 q2 => exact ⟨p, ps, dp_of R.core.sub dx h1, .lst (SqL.of (R.core.sub _ _ q1)) (dps_of R.core.sub q2 h3), h4, h5, k F H _ R (Sub.refl _) (.bl _)⟩
  · cases h
theorem Room.u65 {k : Nat} {A : Around} (r : Room k A) : A.units + 65 < cLine := by have := r.un; omega
theorem d_inD {a b : Expr} {fa fb : EX} {pos : Pos} (hu : X.A.units + 65 < cLine) (ha : PD X W a fa) (hb : PD X W b fb) (hm : behindInMarks .In b = false := by with_unfolding_all rfl) : PD X W (.Compare a [.In] [b] pos) (e2 dInD fa fb) := d_cmp (op_inD hu) q_inD ha hb hm
theorem d_niD {a b : Expr} {fa fb : EX} {pos : Pos} (hu : X.A.units + 65 < cLine) (ha : PD X W a fa) (hb : PD X W b fb) (hm : behindInMarks .NotIn b = false := by with_unfolding_all rfl) : PD X W (.Compare a [.NotIn] [b] pos) (e2 dNiD fa fb) := d_cmp (op_notInD hu) q_niD ha hb hm
theorem t_inD {a b : Expr} {fa fb : EX} {pos : Pos} (hu : X.A.units + 65 < cLine) (ha : PD X W a fa) (hb : PD X W b fb) (hm : behindInMarks .In b = false := by with_unfolding_all rfl) : PDT X W (.Compare a [.In] [b] pos) (tB (e2 dInD fa fb)) := t_cmp (op_inD hu) q_inD ha hb hm
theorem t_niD {a b : Expr} {fa fb : EX} {pos : Pos} (hu : X.A.units + 65 < cLine) (ha : PD X W a fa) (hb : PD X W b fb) (hm : behindInMarks .NotIn b = false := by with_unfolding_all rfl) : PDT X W (.Compare a [.NotIn] [b] pos) (tB (e2 dNiD fa fb)) := t_cmp (op_notInD hu) q_niD ha hb hm
/-! ### the place in a list of numbers -/
def ixOf (k : Int) : List Int → Option Nat
  | [] => none
  | j :: js => if j = k then some 0 else (match ixOf k js with
    | some i => some (i + 1)
    | none => none)
theorem ixOf_ok {k : Int} : ∀ {js : List Int} {i : Nat}, ixOf k js = some i → js[i]? = some k ∧ ∀ (m : Nat) (z : Int), m < i → js[m]? = some z → z ≠ k
  | [], _, h => by cases h
  | j :: js, i, h => by
    unfold ixOf at h
    split at h
    · rename_i hj
      cases h
      exact ⟨by rw [hj]; rfl, fun m z hm => by omega⟩
    · rename_i hj
      split at h
      · rename_i i' hi
        cases h
        obtain ⟨h1, h2⟩ := ixOf_ok hi
        refine ⟨by simpa using h1, fun m z hm hz => ?_⟩
        cases m with
        | zero =>
          simp at hz
          rw [← hz]
          exact hj
        | succ m => exact h2 m z (by omega) (by simpa using hz)
      · cases h
def dIdx (x y : D) : Option D := match x, y with
  | .lst ds, .int k => (match dInts ds with
    | some js => (match ixOf k js with
      | some i => some (.int i)
      | none => none)
    | none => none)
  | _, _ => none
def isLst (x : D) : Option Unit := match x with
  | .lst _ => some ()
  | _ => none
def eIdx (fa fb : EX) : EX := fun ρ => M.bind (fa ρ) fun x => M.bind (M.opt (isLst x)) fun _ => M.bind (fb ρ) fun y => M.opt (dIdx x y)
theorem flats_ints {js : List Int} : (js.map V.int).all flatV = true := by
  rw [List.all_eq_true]
  intro v hv
  obtain ⟨j, _, rfl⟩ := List.mem_map.mp hv
  rfl
theorem d_idx {a b : Expr} {fa fb : EX} {apos cpos : Pos} (ha : PD X W a fa) (hb : PD X W b fb) (hbase : attributeBase a "index" X.env (eval a X.env) = eval a X.env := by rfl) (hline : (apos.endLine == cpos.line) = true := by rfl) (hs : starEach [b] X.env = (false, eval b X.env) :: starEach [] X.env := by rfl)
    (hfew : ((backTo cpos (starEach [b] X.env)).all (fun x => !x.1) && (backToKw cpos (keywordEach [] X.env)).all (fun x => x.1.isSome) && decide ([b].length + ([] : List Keyword).length + (if ([] : List Keyword).isEmpty then 0 else 1) < 30)) = true := by rfl) :
    PD X W (.Call (.Attribute a "index" apos) [b] [] cpos) (eIdx fa fb) := imp_E (pe_bm PySem.F.plainAttrs_list PySem.F.slot_list_index PySem.F.type_list_index mt_index ha (pa_cons hb pa_nil hs) hbase hfew hline hs) fun σ H Q ⟨fr, F, ρ, n, r, n', R, e, k⟩ => by
  rcases M.bind_any e with ⟨z, e1, rfl⟩ | ⟨x, n1, e1, h⟩
  · exact ⟨fr, F, ρ, n, .error z, n', R, e1, k⟩
  refine ⟨fr, F, ρ, n, .ok x, n1, R, e1, fun F1 H1 v R1 s1 d1 => ?_⟩
  rcases M.bind_any h with ⟨z, e2, rfl⟩ | ⟨_, n2, e2, hh⟩
  · exact (M.opt_err e2).elim
  obtain ⟨q1, q2⟩ := M.opt_ok e2
  subst q2
  unfold isLst at q1
  split at q1
  · rename_i ds
    cases d1 with
    | lst h1 h2 =>
      refine ⟨.inl ⟨rfl, _, R1.core.sub.sqL (SqL.of h1)⟩, ?_⟩
      rcases M.bind_any hh with ⟨z, e3, rfl⟩ | ⟨y, n3, e3, h4⟩
      · exact ⟨fr, F1, ρ, _, .error z, n', R1, e3, KX.mono k s1⟩
      refine ⟨fr, F1, ρ, _, .ok y, n3, R1, e3, fun F2 H2 w R2 s2 d2 => ?_⟩
      rcases r with z | d
      · exact (M.opt_err h4).elim
      obtain ⟨e4, e5⟩ := M.opt_ok h4
      subst e5
      unfold dIdx at e4
      split at e4
      · rename_i ds' kk eds
        cases eds
        split at e4
        · rename_i js hjs
          split at e4
          · rename_i i hi
            cases e4
            cases d2
            obtain ⟨i1, i2⟩ := ixOf_ok hi
            have hv := ints_of h2 hjs
            subst hv
            refine ⟨_, _, .int kk, i, .int kk, rfl, rfl, R2.core.sub.sqL (s2.sqL (SqL.of h1)), rfl, flats_ints, by simp [i1], by simp [eqV], fun m z' hm hz => ?_, k F2 H2 _ R2 (s1.trans s2) (.int _)⟩
            rw [List.getElem?_map] at hz
            obtain ⟨x, hx, rfl⟩ := Option.map_eq_some_iff.mp hz
            have := i2 m x hm hx
            simp [eqV, this]
          · cases e4
        · cases e4
      · cases e4
  · cases q1
end
/-! ### a def with a lambda in it -/
open PyProof.Rows (envOfC)
section
variable {P : Program} {w : World} {K : PySem.W.Frag} {mg : Str → Option Value} {base : Heap} {W : Wd}
theorem okDc {x qual : Str} {st : Stmt} {f : Addr} {fd : FuncData} {N ps : List Str} {k : Nat} {g : SX} (F : Fun K x qual st f fd) (S : FnScope N ps (defScope st))
    (body : ∀ (cdv : Value), Cdv fd cdv → ∀ (A : Around) (outer : List PySem.Env) (s : Shared) (H : Hp) (E : XK), Room k (A.deeper (envOfC qual (defScope st) s.heap.objs.size f cdv)) → PDSs (cxOf (L2.CX P w) P w K mg base N qual (defScope st) f cdv A outer s H E) W (defBody st) g) :
    FnOk P w K mg base (L2.CX P w) (k + 1) f fd ps (spD K W (runD N.length ps.length g) ps.length) := by
  refine fn_okXc F S (fun vs H Q E h => h.1) fun cdv hcv A outer s H vs Q E hr h => ?_
  obtain ⟨hl, fr, F0, n, ds, r, n', c, dd, e, k⟩ := h
  refine ⟨_, body cdv hcv A outer s H E hr, ?_⟩
  rcases M.bind_any e with ⟨z, e1, rfl⟩ | ⟨o, n1, e1, h1⟩
  · exact ⟨fr.at F0 H, F0, _, n, .error z, n', start_rel c dd hl, e1, fun F' H' σ' cls d c' s' x => acc_of rfl rfl rfl rfl (k F' H' cls d c' x)⟩
  refine ⟨fr.at F0 H, F0, _, n, .ok o, n1, start_rel c dd hl, e1, ?_⟩
  cases o with
  | ret d' =>
    obtain ⟨a1, a2⟩ := M.pure_any h1
    subst a1 a2
    exact fun F' H' v c' s' d' => k F' H' v c' d'
  | nx ρ =>
    obtain ⟨a1, a2⟩ := M.pure_any h1
    subst a1 a2
    exact fun F' H' σ' R' s' => k F' H' _ R'.core .non
  | bk ρ => obtain ⟨_, q⟩ := M.opt_any h1; cases q
  | ct ρ => obtain ⟨_, q⟩ := M.opt_any h1; cases q
end
end DL
end

section
set_option Elab.async false
set_option linter.all false
set_option autoImplicit false
set_option maxRecDepth 100000
set_option maxHeartbeats 1000000
/-! own lists by place; extend; lists times a number -/
namespace DL
open PySem PySem.Spec L2
section
variable {X : Cx} {W : Wd} {a b : Expr} {fa fb : EX} {pos : Pos}
/-! ### x[k], x one's own list -/
def eOwnIx (i : Nat) (fk : EX) : EX := fun ρ => M.bind (M.opt (ownLst i ρ)) fun _ => M.bind (fk ρ) fun k => M.opt ((own? ρ i).bind fun d => dIx d k)
theorem d_ownIx {i : Nat} {o k : Expr} {fk : EX} (ho : PE X o (tVar i)) (hk : PD X W k fk) (hs : PlainIx k := by exact fun _ _ => rfl) : PD X W (.Subscript o k pos) (eOwnIx i fk) := imp_E (pe_ix ix_list ho hk hs) fun σ H Q ⟨fr, F, ρ, n, r, n', R, e, kk⟩ => by
  rcases M.bind_any e with ⟨z, e1, rfl⟩ | ⟨_, n1, e1, h⟩
  · exact (M.opt_err e1).elim
  obtain ⟨q0, q1⟩ := M.opt_ok e1
  subst q1
  obtain ⟨zs0, q0⟩ := ownLst_some q0
  obtain ⟨ad0, s0⟩ := R.slots
  obtain ⟨z1, z2, z3, z4, z5, z7⟩ := s0.own i _ q0
  refine ⟨_, z1, ?_⟩
  rcases M.bind_any h with ⟨z, e2, rfl⟩ | ⟨kd, n2, e2, h2⟩
  · exact ⟨fr, F, ρ, _, .error z, n', R, e2, kk⟩
  refine ⟨fr, F, ρ, _, .ok kd, n2, R, e2, fun F1 H1 u R1 s1 d1 => ?_⟩
  rcases r with z | d
  · exact (M.opt_err h2).elim
  obtain ⟨e3, e4⟩ := M.opt_ok h2
  subst e4
  obtain ⟨dd, e5, e6⟩ := Option.bind_eq_some_iff.mp e3
  have hi := own_some e5
  rw [q0] at hi
  cases hi
  obtain ⟨ad, s⟩ := R1.slots
  obtain ⟨a1, a2, a3, a4, ⟨us, a5, a6⟩, a7⟩ := s.own i _ q0
  have ea : ad i = ad0 i := by rw [a1] at z1; injection z1 with z1; injection z1 with z1; injection z1
  cases kd with
  | int j =>
    cases d1
    have e6 : atI zs0 j = some d := e6
    obtain ⟨w, w1, w2⟩ := a6.at e6
    refine ⟨ad0 i, us, j, w, rfl, rfl, ?_, w1, kk F1 H1 w R1 s1 w2⟩
    rw [← ea]
    exact SqL.of a5
  | _ => cases e6
/-! ### x[k] = v, x one's own list -/
def uSet (k d : D) : D → Option D
  | .lst ds => (match k with
    | .int j => (match ixN ds.length j with
      | some m => some (.lst (ds.set m d))
      | none => none)
    | _ => none)
  | _ => none
def sPutL (i : Nat) (fk fv : EX) : SX := fun ρ => M.bind (fv ρ) fun d => M.bind (M.opt (ownLst i ρ)) fun _ => M.bind (fk ρ) fun k => M.bind (M.opt ((own? ρ i).bind (uSet k d))) fun o => M.pure (.nx (ρ.set i (.own o)))
theorem S_putL {i : Nat} {o k v : Expr} {fk fv : EX} {p2 : Pos} (ho : PE X o (tVar i)) (hk : PD X W k fk) (hv : PD X W v fv) (hs : swapsWithSole [.Subscript o k p2] v pos.line X.env = pure false := by rfl) (hw : swappedStores [.Subscript o k p2] v X.env = pure none := by rfl)
    (h1 : (assignEach [.Subscript o k p2] X.env).map (·.2) = [assign (.Subscript o k p2) X.env] := by rfl)
    (ha : ∀ v, assign (.Subscript o k p2) X.env v = (do
      let ov ← holding [v] (eval o X.env)
      let iv ← holding [v, ov] (eval k X.env)
      standAt p2
      holding [v, ov, iv] (setItem ov iv v)
      release [v, ov, iv] []) := by intro _; rfl) :
    PDS X W (.Assign [.Subscript o k p2] v pos) (sPutL i fk fv) := imp_S (ps_asg hv (pg_sub ho hk set_list ha) hs hw h1) fun E σ H ⟨fr, F, ρ, n, r, n', R, e, kk⟩ => by
  rcases M.bind_any e with ⟨z, e1, rfl⟩ | ⟨d, n1, e1, h0⟩
  · exact ⟨fr, F, ρ, n, .error z, n', R, e1, KS.x kk⟩
  rcases M.bind_any h0 with ⟨z, e2, rfl⟩ | ⟨_, n2, e2, h⟩
  · exact (M.opt_err e2).elim
  obtain ⟨q0, q1⟩ := M.opt_ok e2
  subst q1
  obtain ⟨zs0, q0⟩ := ownLst_some q0
  refine ⟨fr, F, ρ, n, .ok d, _, R, e1, fun F1 H1 u R1 s1 d1 => ?_⟩
  obtain ⟨ad0, s0⟩ := R1.slots
  obtain ⟨z1, z2, z3, z4, z5, z7⟩ := s0.own i _ q0
  refine ⟨_, z1, ?_⟩
  rcases M.bind_any h with ⟨z, e3, rfl⟩ | ⟨kd, n3, e3, h3⟩
  · exact ⟨fr, F1, ρ, _, .error z, n', R1, e3, KX.mono (KS.x kk) s1⟩
  refine ⟨fr, F1, ρ, _, .ok kd, n3, R1, e3, fun F2 H2 w R2 s2 d2 => ?_⟩
  rcases M.bind_any h3 with ⟨z, e4, rfl⟩ | ⟨dd, n4, e4, h4⟩
  · exact (M.opt_err e4).elim
  obtain ⟨e5, e6⟩ := M.opt_ok e4
  obtain ⟨e7, e8⟩ := M.pure_any h4
  subst e6 e7 e8
  obtain ⟨dd0, f1, f2⟩ := Option.bind_eq_some_iff.mp e5
  have hi := own_some f1
  rw [q0] at hi
  cases hi
  obtain ⟨ad, s⟩ := R2.slots
  obtain ⟨a1, a2, a3, a4, ⟨us, a5, a6⟩, a7⟩ := s.own i _ q0
  have ea : ad i = ad0 i := by rw [a1] at z1; injection z1 with z1; injection z1 with z1; injection z1
  unfold uSet at f2
  cases kd with
  | int j =>
    cases d2
    have f2 : (match ixN zs0.length j with | some m => some (D.lst (zs0.set m d)) | none => none) = some dd := f2
    split at f2
    · rename_i m hm
      cases f2
      refine ⟨ad0 i, us, j, m, rfl, rfl, by rw [← ea]; exact a5, by rw [a6.length]; exact hm, ?_⟩
      have d1' := d1.mono (dr' := fr.dr) s2 fun _ z => z
      rw [← ea]
      exact kk F2 _ _ (R2.change s q0 ⟨us.set m u, upd_same, a6.set m d1'⟩ rfl) (s1.trans s2)
    · cases f2
  | _ => cases f2
/-! ### x.extend(e), x one's own list -/
def sExtM (i : Nat) (fx : EX) : SX := fun ρ => M.bind (M.opt (ownLst i ρ)) fun _ => sUp i uExt fx ρ
theorem S_extM {i : Nat} {o e : Expr} {fx : EX} {apos cpos pos : Pos} (he : PD X W e fx) (hp : PE X (.Call (.Attribute o "extend" apos) [e] [] cpos) (tBM X.K "list" rExtend (tVar i) (tCons (tD X W fx) tNil))) (hs : swapsWith (.Call (.Attribute o "extend" apos) [e] [] cpos) none pos.line X.env = pure false := by rfl) : PDS X W (.Expr (.Call (.Attribute o "extend" apos) [e] [] cpos) pos) (sExtM i fx) := imp_S (ps_expr hp hs) fun E σ H ⟨fr, F, ρ, n, r, n', R, e, k⟩ => by
  rcases M.bind_any e with ⟨z, e0, rfl⟩ | ⟨ds0, n0, e0, e9⟩
  · exact (M.opt_err e0).elim
  clear e
  have e := e9
  clear e9
  obtain ⟨q0, q1⟩ := M.opt_ok e0
  subst q1
  obtain ⟨zs0, q0⟩ := ownLst_some q0
  obtain ⟨ad0, s0⟩ := R.slots
  obtain ⟨z1, z2, z3, z4, ⟨zs, z5, z6⟩, z7⟩ := s0.own i _ q0
  refine ⟨_, z1, .inl ⟨rfl, _, SqL.of z5⟩, ?_⟩
  rcases r with z | o
  · refine R.dE e (KS.x k) fun _ _ _ _ _ _ h _ _ _ => ?_
    rcases M.bind_err h with h | ⟨_, _, _, h⟩
    · exact (M.opt_err h).elim
    · exact (M.pure_err h).elim
  obtain ⟨d, a, b, e1, hi, e3, rfl⟩ := sUp_ok e
  unfold uExt at e3
  cases a with
  | lst ds =>
    cases d with
    | lst ys =>
      have e3 : (if ds.length + ys.length ≤ sizeLine then some (D.lst (ds ++ ys)) else none) = some b := e3
      split at e3
      · rename_i q
        cases e3
        refine ⟨fr, F, ρ, _, .ok _, _, R, e1, fun F1 H1 v R1 s1 d1 => ?_⟩
        obtain ⟨ad, s⟩ := R1.slots
        obtain ⟨a1, a2, a3, a4, ⟨us, a5, a6⟩, a7⟩ := s.own i _ hi
        have ea : ad i = ad0 i := by rw [a1] at z1; injection z1 with z1; injection z1 with z1; injection z1
        cases d1 with
        | lst b1 b2 =>
          rename_i l vs
          refine ⟨ad i, l, us, vs, by rw [ea], rfl, a5, R1.core.sub _ _ b1, by rw [a6.length, b2.length]; exact q, ?_⟩
          have ch := R1.change s hi (o := .lst (us ++ vs)) (d' := .lst (ds ++ ys)) ⟨us ++ vs, upd_same, a6.append b2⟩ rfl
          exact k F1 _ _ ch s1
      · cases e3
    | _ => cases e3
  | _ => cases e3
/-! ### a list times a number -/
def dMulL : D → D → Option D
  | .lst xs, .int k => if decide (-1000000 ≤ k) && decide (k ≤ 1000000) && decide (xs.length * k.toNat ≤ 1000000) then some (.lst (List.replicate k.toNat xs).flatten) else none
  | _, _ => none
theorem d_mulL (ha : PD X W a fa) (hb : PD X W b fb) : PD X W (.BinOp a .Mult b pos) (e2 dMulL fa fb) := d_op op_rep (by
  intro fr F H σ ρ n x y d v u Q R dx dy h k
  unfold dMulL at h
  split at h
  · split at h
    · rename_i xs kk q
      simp only [Bool.and_eq_true, decide_eq_true_eq] at q
      cases dx with
      | lst h1 h2 =>
        rename_i l vs
        cases dy; cases h
        have s : (1000000 : Nat) ≤ sizeLine := by decide
        refine ⟨_, _, _, rfl, rfl, R.core.sub _ _ h1, by omega, by omega, by rw [h2.length]; exact Nat.le_trans q.2 s, fun p hp => ?_⟩
        have s3 : Sub F (upd F p (.lst (List.replicate kk.toNat vs).flatten)) := (Sub.refl F).new (R.core.noF hp)
        exact k _ _ _ (R.fresh hp) s3 (.lst upd_same ((h2.rep _).mono s3 fun _ z => z))
    · cases h
  · cases h) ha hb
end
end DL
end

section
set_option Elab.async false
set_option linter.all false
set_option autoImplicit false
set_option maxRecDepth 100000
set_option maxHeartbeats 400000
/-! printed by gen.py -/
namespace P_k47_whole_charts
open PySem PySem.Spec L2 DL
def tb_KINDS : List (Str × DL.D) := [("k", .tup [.int 1, .int 1, .str "p", .str "k"]), ("p", .tup [.int 1, .int 1, .str "k", .str "p"]), ("ktbl", .tup [.int 1, .int 1, .str "ptbl", .str "ktbl"]), ("ptbl", .tup [.int 1, .int 1, .str "ktbl", .str "ptbl"]), ("sl", .tup [.int 1, .int 1, .str "slf", .str "sl"]), ("slf", .tup [.int 1, .int 1, .str "sl", .str "slf"]), ("yo", .tup [.int 0, .int 1, .str "yo", .str "yo"]), ("co", .tup [.int 0, .int 1, .str "co", .str "co"]), ("bo", .tup [.int 1, .int 0, .str "bo", .str "bo"]), ("kfb", .tup [.int 1, .int 2, .str "pfb", .str "kfb"]), ("pfb", .tup [.int 1, .int 2, .str "kfb", .str "pfb"]), ("m1l", .tup [.int 0, .int 1, .str "m1lp", .str "m1r"]), ("m1r", .tup [.int 0, .int 1, .str "m1rp", .str "m1l"]), ("m1lp", .tup [.int 0, .int 1, .str "m1l", .str "m1rp"]), ("m1rp", .tup [.int 0, .int 1, .str "m1r", .str "m1lp"]), ("k2tog", .tup [.int 2, .int 1, .str "p2tog", .str "ssk"]), ("ssk", .tup [.int 2, .int 1, .str "ssp", .str "k2tog"]), ("p2tog", .tup [.int 2, .int 1, .str "k2tog", .str "ssp"]), ("ssp", .tup [.int 2, .int 1, .str "ssk", .str "p2tog"]), ("cdd", .tup [.int 3, .int 1, .str "cddp", .str "cdd"]), ("cddp", .tup [.int 3, .int 1, .str "cdd", .str "cddp"]), ("c2f", .tup [.int 2, .int 2, .str "c2fw", .str "c2b"]), ("c2b", .tup [.int 2, .int 2, .str "c2bw", .str "c2f"]), ("c2fw", .tup [.int 2, .int 2, .str "c2f", .str "c2bw"]), ("c2bw", .tup [.int 2, .int 2, .str "c2b", .str "c2fw"]), ("c4f", .tup [.int 4, .int 4, .str "c4fw", .str "c4b"]), ("c4b", .tup [.int 4, .int 4, .str "c4bw", .str "c4f"]), ("c4fw", .tup [.int 4, .int 4, .str "c4f", .str "c4bw"]), ("c4bw", .tup [.int 4, .int 4, .str "c4b", .str "c4fw"])]
def tr2 : Nat → Option Bool := fun i => if i = 1 then some false else if i = 2 then some true else none
def g_Chart___init__ : SX := (sSeq (sUp 0 (uFld 3 "parts") (eVar 1))
  (sUp 0 (uFld 3 "bounds") (eB dLstA (eCons (eVar 2) eNil))))
def f_Chart___init__ : FX := runI 3 3 3 (g_Chart___init__)
def g_is_kind : SX := (sRet (eAnd (e1 (dIsi "str") (eVar 0)) (e1 (dInK tb_KINDS) (eVar 0))))
def f_is_kind : FX := runD 1 1 (g_is_kind)
def g_is_yarn : SX := (sRet (eAnd (e1 (dIsi "str") (eVar 0)) (eAnd (e2 dEq (eB dLen (eCons (eVar 0) eNil)) (eC (.int 1))) (eChain dLeA dLeA (eC (.str "a")) (eVar 0) (eC (.str "z"))))))
def f_is_yarn : FX := runD 1 1 (g_is_yarn)
def g_is_cell : SX := (sRet (eAnd (e1 (dIsi "tuple") (eVar 0)) (eAnd (e2 dEq (eB dLen (eCons (eVar 0) eNil)) (eC (.int 2))) (eAnd (eCall (f_is_kind) (eCons (e2 dIx (eVar 0) (eC (.int 0))) eNil)) (eCall (f_is_yarn) (eCons (e2 dIx (eVar 0) (eC (.int 1))) eNil))))))
def f_is_cell : FX := runD 1 1 (g_is_cell)
def g_is_word : SX := (sRet (eAnd (e1 (dIsi "tuple") (eVar 0)) (eB dAll (eCons (eComp [1] (gV 1) (iOf (eVar 0)) tYesD (eCall (f_is_cell) (eCons (eVar 1) eNil))) eNil))))
def f_is_word : FX := runD 2 1 (g_is_word)
def g_takes : SX := (sRet (eB dSum (eCons (eComp [1, 2] (gT (gsC (gV 1) (gsC (gV 2) gsN))) (iOf (eVar 0)) tYesD (e2 dIx (e1 (dIxK tb_KINDS) (eVar 1)) (eC (.int 0)))) eNil)))
def f_takes : FX := runD 3 1 (g_takes)
def g_is_row : SX := (sSeq (sIf (tOrD (tNotD (tTru (e1 (dIsi "tuple") (eVar 0)))) (tOrD (tB (e2 dNe (eB dLen (eCons (eVar 0) eNil)) (eC (.int 3)))) (tNotD (tTru (eB dAll (eCons (eComp [4] (gV 4) (iOf (eVar 0)) tYesD (eCall (f_is_word) (eCons (eVar 4) eNil))) eNil)))))) (sRet (eC (.bl false))) sNx)
  (sSeq (sAsg (gT (gsC (gV 1) (gsC (gV 2) (gsC (gV 3) gsN)))) (eVar 0))
  (sSeq (sIf (tOrD (tB (e2 dGt (eB dLen (eCons (eVar 1) eNil)) (eC (.int 60)))) (tOrD (tB (e2 dGt (eB dLen (eCons (eVar 2) eNil)) (eC (.int 30)))) (tB (e2 dGt (eB dLen (eCons (eVar 3) eNil)) (eC (.int 60)))))) (sRet (eC (.bl false))) sNx)
  (sRet (eIf (tB (e2 dNe (eVar 2) (eTup eNil))) (e2 dGt (eCall (f_takes) (eCons (eVar 2) eNil)) (eC (.int 0))) (e2 dEq (eVar 3) (eTup eNil)))))))
def f_is_row : FX := runD 5 1 (g_is_row)
def g_check_chart : SX := (sIf (tOrD (tNotD (tTru (e1 (dIsi "list") (eVar 0)))) (tOrD (tB (e2 dGt (eB dLen (eCons (eVar 0) eNil)) (eC (.int 60)))) (tNotD (tTru (eB dAll (eCons (eComp [1] (gV 1) (iOf (eVar 0)) tYesD (eCall (f_is_row) (eCons (eVar 1) eNil))) eNil)))))) (sRaise 2) sNx)
def f_check_chart : FX := runD 2 1 (g_check_chart)
def g_makes : SX := (sRet (eB dSum (eCons (eComp [1, 2] (gT (gsC (gV 1) (gsC (gV 2) gsN))) (iOf (eVar 0)) tYesD (e2 dIx (e1 (dIxK tb_KINDS) (eVar 1)) (eC (.int 1)))) eNil)))
def f_makes : FX := runD 3 1 (g_makes)
def g_is_even : SX := (sRet (e2 dEq (eCall (f_takes) (eCons (e2 dIx (eVar 0) (eC (.int 1))) eNil)) (eCall (f_makes) (eCons (e2 dIx (eVar 0) (eC (.int 1))) eNil))))
def f_is_even : FX := runD 1 1 (g_is_even)
def g_is_number : SX := (sRet (eAnd (e1 (dIsi "int") (eVar 0)) (eNot (e1 (dIsi "bool") (eVar 0)))))
def f_is_number : FX := runD 1 1 (g_is_number)
def g_is_line : SX := (sSeq (sIf (tOrD (tNotD (tTru (e1 (dIsi "tuple") (eVar 0)))) (tB (e2 dNe (eB dLen (eCons (eVar 0) eNil)) (eC (.int 2))))) (sRet (eC (.bl false))) sNx)
  (sSeq (sIf (tOrD (tNotD (tTru (eCall (f_is_number) (eCons (e2 dIx (eVar 0) (eC (.int 0))) eNil)))) (tNotD (tTru (eCall (f_is_number) (eCons (e2 dIx (eVar 0) (eC (.int 1))) eNil))))) (sRet (eC (.bl false))) sNx)
  (sRet (eAnd (e2 dLeA (eB dAbs (eCons (e2 dIx (eVar 0) (eC (.int 0))) eNil)) (eC (.int 99))) (e2 dLeA (eB dAbs (eCons (e2 dIx (eVar 0) (eC (.int 1))) eNil)) (eC (.int 9)))))))
def f_is_line : FX := runD 1 1 (g_is_line)
def g_change_of : SX := (sRet (e2 dSub (e2 dSub (e2 dAdd (eCall (f_makes) (eCons (e2 dIx (eVar 0) (eC (.int 0))) eNil)) (eCall (f_makes) (eCons (e2 dIx (eVar 0) (eC (.int 2))) eNil))) (eCall (f_takes) (eCons (e2 dIx (eVar 0) (eC (.int 0))) eNil))) (eCall (f_takes) (eCons (e2 dIx (eVar 0) (eC (.int 2))) eNil))))
def f_change_of : FX := runD 1 1 (g_change_of)
def g_round_change : SX := (sRet (eB dSum (eCons (eComp [1] (gV 1) (iOf (e2 dIx (eVar 0) (eC (.int 2)))) tYesD (eCall (f_change_of) (eCons (eVar 1) eNil))) eNil)))
def f_round_change : FX := runD 2 1 (g_round_change)
def g_is_part : SX := (sSeq (sIf (tOrD (tNotD (tTru (e1 (dIsi "tuple") (eVar 0)))) (tB (e2 dEq (eB dLen (eCons (eVar 0) eNil)) (eC (.int 0))))) (sRet (eC (.bl false))) sNx)
  (sSeq (sIf (tB (e2 dEq (e2 dIx (eVar 0) (eC (.int 0))) (eC (.str "row")))) (sRet (eAnd (e2 dEq (eB dLen (eCons (eVar 0) eNil)) (eC (.int 2))) (eCall (f_is_row) (eCons (e2 dIx (eVar 0) (eC (.int 1))) eNil)))) sNx)
  (sSeq (sIf (tOrD (tB (e2 dNe (e2 dIx (eVar 0) (eC (.int 0))) (eC (.str "block")))) (tOrD (tB (e2 dNe (eB dLen (eCons (eVar 0) eNil)) (eC (.int 3)))) (tOrD (tNotD (tTru (eCall (f_is_line) (eCons (e2 dIx (eVar 0) (eC (.int 1))) eNil)))) (tNotD (tTru (e1 (dIsi "tuple") (e2 dIx (eVar 0) (eC (.int 2))))))))) (sRet (eC (.bl false))) sNx)
  (sSeq (sIf (tOrD (tNotD (tB (eChain dLeA dLeA (eC (.int 1)) (eB dLen (eCons (e2 dIx (eVar 0) (eC (.int 2))) eNil)) (eC (.int 20))))) (tNotD (tTru (eB dAll (eCons (eComp [1] (gV 1) (iOf (e2 dIx (eVar 0) (eC (.int 2)))) tYesD (eAnd (eCall (f_is_row) (eCons (eVar 1) eNil)) (eCall (f_is_even) (eCons (eVar 1) eNil)))) eNil))))) (sRet (eC (.bl false))) sNx)
  (sRet (e2 dLeA (eB dAbs (eCons (eCall (f_round_change) (eCons (eVar 0) eNil)) eNil)) (eC (.int 12))))))))
def f_is_part : FX := runD 2 1 (g_is_part)
def g_is_constant : SX := (sRet (eAnd (eCall (f_is_part) (eCons (eVar 0) eNil)) (eOr (e2 dEq (e2 dIx (eVar 0) (eC (.int 0))) (eC (.str "row"))) (eAnd (e2 dEq (e2 dIx (e2 dIx (eVar 0) (eC (.int 1))) (eC (.int 1))) (eC (.int 0))) (e2 dGe (e2 dIx (e2 dIx (eVar 0) (eC (.int 1))) (eC (.int 0))) (eC (.int 2)))))))
def f_is_constant : FX := runD 1 1 (g_is_constant)
def g_periods : SX := (sSeq (sAsg (gV 1) (eB dLen (eCons (eVar 0) eNil)))
  (sRet (eComp [2] (gV 2) (iRng2D (eCons (eC (.int 1)) (eCons (eVar 1) eNil))) (tAndD (tB (e2 dEq (e2 dMod (eVar 1) (eVar 2)) (eC (.int 0)))) (tB (e2 dEq (eCut (eVar 0) (oSome (eVar 2)) oNone) (eCut (eVar 0) oNone (oSome (e2 dSub (eVar 1) (eVar 2))))))) (eVar 2))))
def f_periods : FX := runD 3 1 (g_periods)
def g_repeat_cost : SX := (sRet (e2 dAdd (eVar 0) (eIf (tB (e2 dEq (eVar 1) (eC (.int 1)))) (eC (.int 1)) (eC (.int 2)))))
def f_repeat_cost : FX := runD 2 2 (g_repeat_cost)
def g_ways_below : SX := (sSeq (sIf (tB (e2 dEq (eVar 2) (e2 dAdd (eVar 1) (eC (.int 1))))) (sRet (eLst (eCons (eTup (eCons (eC (.int 1)) (eCons (eTup (eCons (eC (.str "cell")) eNil)) eNil))) eNil))) sNx)
  (sSeq (sOwnN 4 (nComp [6] (gV 6) (iRng2D (eCons (e2 dAdd (eVar 1) (eC (.int 1))) (eCons (eVar 2) eNil))) tYesD (eTup (eCons (e2 dAdd (eIxT (eVar 3) (eCons (eVar 1) (eCons (eVar 6) eNil))) (eIxT (eVar 3) (eCons (eVar 6) (eCons (eVar 2) eNil)))) (eCons (eTup (eCons (eC (.str "cut")) (eCons (eVar 6) eNil))) eNil)))))
  (sSeq (sFor (gV 5) (iOf (eCall (f_periods) (eCons (eCut (eVar 0) (oSome (eVar 1)) (oSome (eVar 2))) eNil))) (sApp 4 (eTup (eCons (eCall (f_repeat_cost) (eCons (eIxT (eVar 3) (eCons (eVar 1) (eCons (e2 dAdd (eVar 1) (eVar 5)) eNil))) (eCons (eVar 5) eNil))) (eCons (eTup (eCons (eC (.str "times")) (eCons (eVar 5) eNil))) eNil)))))
  (sSeq (sFrz 4) (sRet (eVar 4))))))
def f_ways_below : FX := runD 7 4 (g_ways_below)
def g__filled : SX := (sSeq (sOwn2 1 2 (.dit [] []) (.dit [] []))
  (sSeq (sFor (gV 3) (iRng2D (eCons (eC (.int 1)) (eCons (e2 dAdd (eB dLen (eCons (eVar 0) eNil)) (eC (.int 1))) eNil))) (sFor (gV 4) (iRng1D (eCons (e2 dAdd (e2 dSub (eB dLen (eCons (eVar 0) eNil)) (eVar 3)) (eC (.int 1))) eNil)) (sSeq (sAsg (gT (gsC (gV 5) (gsC (gV 6) gsN))) (eLend 1 (e1 dMinK0 (eCall (f_ways_below) (eCons (eVar 0) (eCons (eVar 4) (eCons (e2 dAdd (eVar 4) (eVar 3)) (eCons (eVar 1) eNil))))))))
  (sSeq (sPutT 1 (eCons (eVar 4) (eCons (e2 dAdd (eVar 4) (eVar 3)) eNil)) (eVar 5))
  (sPutT 2 (eCons (eVar 4) (eCons (e2 dAdd (eVar 4) (eVar 3)) eNil)) (eVar 6))))))
  (sSeq (sFrz 1) (sSeq (sFrz 2) (sRet (eTup (eCons (eVar 1) (eCons (eVar 2) eNil))))))))
def f__filled : FX := runD 7 1 (g__filled)
def g_check_short : SX := (sIf (tOrD (tNotD (tTru (eCall (f_is_word) (eCons (eVar 0) eNil)))) (tB (e2 dGt (eB dLen (eCons (eVar 0) eNil)) (eC (.int 60))))) (sRaise 1) sNx)
def f_check_short : FX := runD 1 1 (g_check_short)
def g_least_cost : SX := (sSeq (sExp (eCall (f_check_short) (eCons (eVar 0) eNil)))
  (sRet (eIf (tB (e2 dEq (eVar 0) (eTup eNil))) (eC (.int 0)) (eIxT (e2 dIx (eCall (f__filled) (eCons (eVar 0) eNil)) (eC (.int 0))) (eCons (eC (.int 0)) (eCons (eB dLen (eCons (eVar 0) eNil)) eNil))))))
def f_least_cost : FX := runD 1 1 (g_least_cost)
def g_row_cost : SX := (sRet (e2 dAdd (eB dSum (eCons (eComp [1] (gV 1) (iOf (eVar 0)) tYesD (eCall (f_least_cost) (eCons (eVar 1) eNil))) eNil)) (eIf (tB (e2 dNe (e2 dIx (eVar 0) (eC (.int 1))) (eTup eNil))) (eC (.int 2)) (eC (.int 0)))))
def f_row_cost : FX := runD 2 1 (g_row_cost)
def g_rows_of : SX := (sRet (eIf (tB (e2 dEq (e2 dIx (eVar 0) (eC (.int 0))) (eC (.str "row")))) (eCut (eVar 0) (oSome (eC (.int 1))) oNone) (e2 dIx (eVar 0) (eC (.int 2)))))
def f_rows_of : FX := runD 1 1 (g_rows_of)
def g_part_cost : SX := (sRet (e2 dAdd (eIf (tB (e2 dEq (e2 dIx (eVar 0) (eC (.int 0))) (eC (.str "block")))) (eC (.int 2)) (eC (.int 1))) (eB dSum (eCons (eComp [1] (gV 1) (iOf (eCall (f_rows_of) (eCons (eVar 0) eNil))) tYesD (eCall (f_row_cost) (eCons (eVar 1) eNil))) eNil))))
def f_part_cost : FX := runD 2 1 (g_part_cost)
def g_parts_from : SX := (sSeq (sOwnN 2 (nLst (eCons (eTup (eCons (eTup (eCons (eC (.str "row")) (eCons (e2 dIxA (eVar 0) (eVar 1)) eNil))) (eCons (e2 dAdd (eVar 1) (eC (.int 1))) eNil))) eNil)))
  (sSeq (sFor (gV 3) (iRng2D (eCons (eC (.int 1)) (eCons (e2 dAdd (eB dMin2 (eCons (eC (.int 20)) (eCons (e2 dDiv (e2 dSub (eB dLen (eCons (eVar 0) eNil)) (eVar 1)) (eC (.int 2))) eNil))) (eC (.int 1))) eNil))) (sSeq (sAsg (gV 4) (eCut (eVar 0) (oSome (eVar 1)) (oSome (e2 dAdd (eVar 1) (eVar 3)))))
  (sSeq (sIf (tNotD (tTru (eB dAll (eCons (eComp [7] (gV 7) (iOf (eVar 4)) tYesD (eCall (f_is_even) (eCons (eVar 7) eNil))) eNil)))) sBk sNx)
  (sSeq (sPar [5, 6] (eCons (eC (.int 1)) (eCons (e2 dAdd (eVar 1) (eVar 3)) eNil)))
  (sWhile (fun _ => 1000000) (tB (e2 dEq (eCut (eVar 0) (oSome (eVar 6)) (oSome (e2 dAdd (eVar 6) (eVar 3)))) (eVar 4))) (sSeq (sPar [5, 6] (eCons (e2 dAdd (eVar 5) (eC (.int 1))) (eCons (e2 dAdd (eVar 6) (eVar 3)) eNil)))
  (sApp 2 (eTup (eCons (eTup (eCons (eC (.str "block")) (eCons (eTup (eCons (eVar 5) (eCons (eC (.int 0)) eNil))) (eCons (eB dTupOf (eCons (eVar 4) eNil)) eNil)))) (eCons (eVar 6) eNil))))))))))
  (sSeq (sFrz 2) (sRet (eComp [8, 6] (gT (gsC (gV 8) (gsC (gV 6) gsN))) (iOf (eVar 2)) (tTru (eCall (f_is_part) (eCons (eVar 8) eNil))) (eTup (eCons (eVar 8) (eCons (eVar 6) eNil))))))))
def f_parts_from : FX := runD 9 2 (g_parts_from)
def g_unrolled : SX := (sSeq (sOwn 1 (.lst []))
  (sSeq (sFor (gV 2) (iOf (eVar 0)) (sExtM 1 (e2 dMulL (eB dLstA (eCons (eCall (f_rows_of) (eCons (eVar 2) eNil)) eNil)) (eIf (tB (e2 dEq (e2 dIx (eVar 2) (eC (.int 0))) (eC (.str "block")))) (e2 dIx (e2 dIx (eVar 2) (eC (.int 1))) (eC (.int 0))) (eC (.int 1))))))
  (sSeq (sFrz 1) (sRet (eVar 1)))))
def f_unrolled : FX := runD 3 1 (g_unrolled)
def g_Chart_shows : SX := (sSeq (sExp (eCall (f_check_chart) (eCons (eVar 1) eNil)))
  (sSeq (sIf (tOrD (tNotD (tTru (e1 (dIsi "tuple") (e1 (dFld 3 "parts") (eVar 0))))) (tNotD (tTru (eB dAll (eCons (eComp [3] (gV 3) (iOf (e1 (dFld 3 "parts") (eVar 0))) tYesD (eCall (f_is_constant) (eCons (eVar 3) eNil))) eNil))))) (sRet (eC (.bl false))) sNx)
  (sSeq (sIf (tOrD (tB (e2 dNe (eCall (f_unrolled) (eCons (e1 (dFld 3 "parts") (eVar 0)) eNil)) (eVar 1))) (tOrD (tB (e2 dNe (eB dLen (eCons (e1 (dFld 3 "bounds") (eVar 0)) eNil)) (e2 dAdd (eB dLen (eCons (eVar 1) eNil)) (eC (.int 1))))) (tB (e2 dGt (e2 dIx (e1 (dFld 3 "bounds") (eVar 0)) (eC (.int 0))) (eC (.int 0)))))) (sRet (eC (.bl false))) sNx)
  (sSeq (sFor (gV 2) (iRng1D (eCons (eB dLen (eCons (eVar 1) eNil)) eNil)) (sFor (gT (gsC (gV 3) (gsC (gV 4) gsN))) (iOf (eCall (f_parts_from) (eCons (eVar 1) (eCons (eVar 2) eNil)))) (sIf (tB (e2 dGt (e2 dIxA (e1 (dFld 3 "bounds") (eVar 0)) (eVar 4)) (e2 dAdd (e2 dIxA (e1 (dFld 3 "bounds") (eVar 0)) (eVar 2)) (eCall (f_part_cost) (eCons (eVar 3) eNil))))) (sRet (eC (.bl false))) sNx)))
  (sRet (e2 dLeA (eB dSum (eCons (eComp [3] (gV 3) (iOf (e1 (dFld 3 "parts") (eVar 0))) tYesD (eCall (f_part_cost) (eCons (eVar 3) eNil))) eNil)) (e2 dIxA (e1 (dFld 3 "bounds") (eVar 0)) (eB dLen (eCons (eVar 1) eNil)))))))))
def f_Chart_shows : FX := runD 5 2 (g_Chart_shows)
def g__law_all_rows : SX := (sSeq (sOwn 2 (.lst []))
  (sSeq (sFor (gV 3) (iOf (eVar 0)) (sIf (tB (e2 dEq (e2 dIx (eVar 3) (eC (.int 0))) (eC (.str "row")))) (sApp 2 (e2 dIx (eVar 3) (eC (.int 1)))) (sSeq (sAsg (gV 4) (e2 dAdd (e2 dIx (e2 dIx (eVar 3) (eC (.int 1))) (eC (.int 0))) (e2 dMul (e2 dIx (e2 dIx (eVar 3) (eC (.int 1))) (eC (.int 1))) (eVar 1))))
  (sSeq (sIf (tB (e2 dLt (eVar 4) (eC (.int 0)))) (sSeq (sFrz 2) (sRet (e2 dAdd (eVar 2) (eLst (eCons (eC .non) eNil))))) sNx)
  (sExt 2 (e2 dMulL (eB dLstA (eCons (e2 dIx (eVar 3) (eC (.int 2))) eNil)) (eVar 4)))))))
  (sSeq (sFrz 2) (sRet (eVar 2)))))
def f__law_all_rows : FX := runD 5 2 (g__law_all_rows)
def g__law_makes : SX := (sRet (eB dSum (eCons (eComp [2, 3] (gT (gsC (gV 2) (gsC (gV 3) gsN))) (iOf (eVar 0)) tYesD (e2 dIx (e2 dIxA (eVar 1) (eVar 2)) (eC (.int 1)))) eNil)))
def f__law_makes : FX := runD 4 2 (g__law_makes)
def g__law_takes : SX := (sRet (eB dSum (eCons (eComp [2, 3] (gT (gsC (gV 2) (gsC (gV 3) gsN))) (iOf (eVar 0)) tYesD (e2 dIx (e2 dIxA (eVar 1) (eVar 2)) (eC (.int 0)))) eNil)))
def f__law_takes : FX := runD 4 2 (g__law_takes)
def g__law_blocks : SX := (sSeq (sOwn 3 (.lst []))
  (sSeq (sFor (gV 4) (iRng2D (eCons (eC (.int 1)) (eCons (e2 dAdd (e2 dSub (eB dLen (eCons (eVar 0) eNil)) (eVar 1)) (eC (.int 1))) eNil))) (sSeq (sAsg (gV 5) (eCut (eVar 0) (oSome (eVar 1)) (oSome (e2 dAdd (eVar 1) (eVar 4)))))
  (sSeq (sAsg (gV 6) (eB dAll (eCons (eComp [9] (gV 9) (iOf (eVar 5)) tYesD (e2 dEq (eCall (f__law_takes) (eCons (e2 dIx (eVar 9) (eC (.int 1))) (eCons (eVar 2) eNil))) (eCall (f__law_makes) (eCons (e2 dIx (eVar 9) (eC (.int 1))) (eCons (eVar 2) eNil))))) eNil)))
  (sSeq (sAsg (gV 7) (eB dSum (eCons (eComp [9] (gV 9) (iOf (eVar 5)) tYesD (e2 dSub (eCall (f__law_makes) (eCons (e2 dAdd (e2 dIx (eVar 9) (eC (.int 0))) (e2 dIx (eVar 9) (eC (.int 2)))) (eCons (eVar 2) eNil))) (eCall (f__law_takes) (eCons (e2 dAdd (e2 dIx (eVar 9) (eC (.int 0))) (e2 dIx (eVar 9) (eC (.int 2)))) (eCons (eVar 2) eNil))))) eNil)))
  (sFor (gV 8) (iRng2D (eCons (eC (.int 2)) (eCons (e2 dAdd (eB dLen (eCons (eVar 0) eNil)) (eC (.int 1))) eNil))) (sIf (tAndD (tTru (eVar 6)) (tAndD (tB (e2 dLeA (eB dAbs (eCons (eVar 7) eNil)) (eC (.int 12)))) (tB (e2 dEq (e2 dMulL (eVar 5) (eVar 8)) (eCut (eVar 0) (oSome (eVar 1)) (oSome (e2 dAdd (eVar 1) (e2 dMul (eVar 4) (eVar 8))))))))) (sApp 3 (eTup (eCons (eVar 5) (eCons (eVar 8) eNil)))) sNx))))))
  (sSeq (sFrz 3) (sRet (eVar 3)))))
def f__law_blocks : FX := runD 10 3 (g__law_blocks)
def g__law_table_cost : SX := (sSeq (sOwn 1 (.dit [] []))
  (sSeq (sFor (gV 2) (iRng2D (eCons (eC (.int 1)) (eCons (e2 dAdd (eB dLen (eCons (eVar 0) eNil)) (eC (.int 1))) eNil))) (sFor (gV 3) (iRng1D (eCons (e2 dAdd (e2 dSub (eB dLen (eCons (eVar 0) eNil)) (eVar 2)) (eC (.int 1))) eNil)) (sSeq (sAsg (gV 4) (e2 dAdd (eVar 3) (eVar 2)))
  (sSeq (sOwnN 5 (nAdd (eLend 1 (eComp [7] (gV 7) (iRng2D (eCons (e2 dAdd (eVar 3) (eC (.int 1))) (eCons (eVar 4) eNil))) tYesD (e2 dAdd (eIxT (eVar 1) (eCons (eVar 3) (eCons (eVar 7) eNil))) (eIxT (eVar 1) (eCons (eVar 7) (eCons (eVar 4) eNil)))))) (eIf (tB (e2 dEq (eVar 2) (eC (.int 1)))) (eLst (eCons (eC (.int 1)) eNil)) (eLst eNil))))
  (sSeq (sFor (gV 6) (iRng2D (eCons (eC (.int 1)) (eCons (eVar 2) eNil))) (sIf (tAndD (tB (e2 dEq (e2 dMod (eB dIntA (eCons (eVar 2) eNil)) (eVar 6)) (eC (.int 0)))) (tB (e2 dEq (e2 dMul (eCut (eVar 0) (oSome (eVar 3)) (oSome (e2 dAdd (eVar 3) (eVar 6)))) (e2 dDiv (eVar 2) (eVar 6))) (eCut (eVar 0) (oSome (eVar 3)) (oSome (eVar 4)))))) (sApp 5 (eLend 1 (e2 dAdd (eIxT (eVar 1) (eCons (eVar 3) (eCons (e2 dAdd (eVar 3) (eVar 6)) eNil))) (eIf (tB (e2 dEq (eVar 6) (eC (.int 1)))) (eC (.int 1)) (eC (.int 2)))))) sNx))
  (sSeq (sFrz 5) (sPutT 1 (eCons (eVar 3) (eCons (eVar 4) eNil)) (eB dMinL (eCons (eVar 5) eNil)))))))))
  (sSeq (sFrz 1) (sRet (eIf (tB (e2 dEq (eVar 0) (eTup eNil))) (eC (.int 0)) (eIxT (eVar 1) (eCons (eC (.int 0)) (eCons (eB dLen (eCons (eVar 0) eNil)) eNil))))))))
def f__law_table_cost : FX := runD 8 1 (g__law_table_cost)
def g__law_cost : SX := (sRet (e2 dAdd (eB dSum (eCons (eComp [1] (gV 1) (iOf (eVar 0)) tYesD (eCall (f__law_table_cost) (eCons (eVar 1) eNil))) eNil)) (eIf (tB (e2 dEq (e2 dIx (eVar 0) (eC (.int 1))) (eTup eNil))) (eC (.int 0)) (eC (.int 2)))))
def f__law_cost : FX := runD 2 1 (g__law_cost)
def g__law_best : SX := (sSeq (sOwnN 2 (nAdd (eLst (eCons (eC (.int 0)) eNil)) (e2 dMulL (eLst (eCons (e2 dPow (eC (.int 10)) (eC (.int 9))) eNil)) (eB dLen (eCons (eVar 0) eNil)))))
  (sSeq (sFor (gV 3) (iRng1D (eCons (eB dLen (eCons (eVar 0) eNil)) eNil)) (sSeq (sPutL 2 (e2 dAdd (eVar 3) (eC (.int 1))) (eB dMin2 (eCons (eOwnIx 2 (e2 dAdd (eVar 3) (eC (.int 1)))) (eCons (e2 dAdd (e2 dAdd (eOwnIx 2 (eVar 3)) (eC (.int 1))) (eCall (f__law_cost) (eCons (e2 dIxA (eVar 0) (eVar 3)) eNil))) eNil))))
  (sFor (gT (gsC (gV 4) (gsC (gV 5) gsN))) (iOf (eCall (f__law_blocks) (eCons (eVar 0) (eCons (eVar 3) (eCons (eVar 1) eNil))))) (sSeq (sAsg (gV 6) (e2 dAdd (eVar 3) (e2 dMul (eB dLen (eCons (eVar 4) eNil)) (eVar 5))))
  (sPutL 2 (eVar 6) (eB dMin2 (eCons (eOwnIx 2 (eVar 6)) (eCons (e2 dAdd (e2 dAdd (eOwnIx 2 (eVar 3)) (eC (.int 2))) (eB dSum (eCons (eComp [7] (gV 7) (iOf (eVar 4)) tYesD (eCall (f__law_cost) (eCons (eVar 7) eNil))) eNil))) eNil))))))))
  (sSeq (sFrz 2) (sRet (eVar 2)))))
def f__law_best : FX := runD 8 2 (g__law_best)
def g__law_number (W : Wd) : SX := (sSeq (sIf (tB (e2 (dScrNil W) (eVar 0) (eLst eNil))) (sRet (eB dInt (eCons (e2 dMod (e2 dAdd (e2 dMul (eVar 1) (eC (.int 48271))) (eC (.int 12345))) (eC (.int 2147483647))) eNil))) sNx)
  (sSeq (sAsg (gV 2) (e2 (dIxS W) (eVar 0) (e2 dMod (eVar 1) (eB (dLenS W) (eCons (eVar 0) eNil)))))
  (sSeq (sIf (tB (e2 dGe (eB dAbs (eCons (eVar 2) eNil)) (e2 dPow (eC (.int 10)) (eC (.int 60))))) (sAsg (gV 2) (e2 dMod (eVar 2) (e2 dPow (eC (.int 10)) (eC (.int 18))))) sNx)
  (sSeq (sAsg (gV 3) (e2 dMod (e2 dAdd (e2 dMul (e2 dAdd (eVar 2) (e2 dMul (eC (.int 977)) (eVar 1))) (eC (.int 48271))) (e2 dMul (eC (.int 31)) (eB (dLenS W) (eCons (eVar 0) eNil)))) (eC (.int 2147483647))))
  (sRet (eB dInt (eCons (e2 dMod (e2 dAdd (e2 dMul (e2 dMod (e2 dMul (eVar 3) (eC (.int 69621))) (eC (.int 2147483629))) (eC (.int 16807))) (eVar 1)) (eC (.int 2147483587))) eNil)))))))
def f__law_number (W : Wd) : FX := runD 4 2 (g__law_number W)
def g__law_take (W : Wd) : SX := (sSeq (sDrw (eVar 0))
  (sRet (e2 dMod (eB dInt (eCons (eCall (f__law_number W) (eCons (eDrw0 (eVar 0)) (eCons (eB dInt (eCons (eDrw1 (eVar 0)) eNil)) eNil))) eNil)) (eVar 1))))
def f__law_take (W : Wd) : FX := runD 2 2 (g__law_take W)
def g__law_pick (W : Wd) : SX := (sRet (e2 dIxA (eVar 1) (eCall (f__law_take W) (eCons (eVar 0) (eCons (eB dLen (eCons (eVar 1) eNil)) eNil)))))
def f__law_pick (W : Wd) : FX := runD 2 2 (g__law_pick W)
def g__law_group (W : Wd) : SX := (sSeq (sOwnN 3 (nLst (eCons (eTup (eCons (eC (.str "k")) eNil)) (eCons (eTup (eCons (eC (.str "k")) (eCons (eC (.str "p")) eNil))) (eCons (eTup (eCons (eC (.str "p")) (eCons (eC (.str "p")) eNil))) (eCons (eTup (eCons (eC (.str "yo")) (eCons (eC (.str "k2tog")) eNil))) (eCons (eTup (eCons (eC (.str "k")) (eCons (eC (.str "p")) (eCons (eC (.str "p")) eNil)))) (eCons (eTup (eCons (eC (.str "sl")) (eCons (eC (.str "k")) eNil))) (eCons (eTup (eCons (eC (.str "c2f")) eNil)) (eCons (eTup (eCons (eC (.str "k2tog")) (eCons (eC (.str "m1l")) eNil))) eNil))))))))))
  (sSeq (sIf (tNotD (tTru (eVar 1))) (sExt 3 (eLst (eCons (eTup (eCons (eC (.str "k2tog")) eNil)) (eCons (eTup (eCons (eC (.str "kfb")) eNil)) (eCons (eTup (eCons (eC (.str "k")) (eCons (eC (.str "yo")) eNil))) (eCons (eTup (eCons (eC (.str "cdd")) eNil)) (eCons (eTup (eCons (eC (.str "k2tog")) (eCons (eC (.str "k2tog")) eNil))) eNil))))))) sNx)
  (sSeq (sFrz 3) (sRet (eB dTupOf (eCons (eComp [4] (gV 4) (iOf (eCall (f__law_pick W) (eCons (eVar 0) (eCons (eVar 3) eNil)))) tYesD (eTup (eCons (eVar 4) (eCons (eCall (f__law_pick W) (eCons (eVar 0) (eCons (eVar 2) eNil))) eNil)))) eNil))))))
def f__law_group (W : Wd) : FX := runD 5 3 (g__law_group W)
def g__law_cell (W : Wd) : SX := (sSeq (sAsg (gV 2) (eLst (eCons (eC (.str "k")) (eCons (eC (.str "p")) (eCons (eC (.str "k")) (eCons (eC (.str "p")) (eCons (eC (.str "sl")) (eCons (eC (.str "yo")) (eCons (eC (.str "k2tog")) (eCons (eC (.str "ssk")) (eCons (eC (.str "kfb")) (eCons (eC (.str "m1l")) (eCons (eC (.str "c2f")) (eCons (eC (.str "ktbl")) (eCons (eC (.str "p2tog")) (eCons (eC (.str "bo")) eNil))))))))))))))))
  (sRet (eTup (eCons (eCall (f__law_pick W) (eCons (eVar 0) (eCons (eVar 2) eNil))) (eCons (eCall (f__law_pick W) (eCons (eVar 0) (eCons (eVar 1) eNil))) eNil)))))
def f__law_cell (W : Wd) : FX := runD 3 2 (g__law_cell W)
def g__law_word (W : Wd) : SX := (sRet (eB dTupOf (eCons (eComp [3] (gV 3) (iRng1D (eCons (eCall (f__law_take W) (eCons (eVar 0) (eCons (e2 dAdd (eVar 1) (eC (.int 1))) eNil))) eNil)) tYesD (eCall (f__law_cell W) (eCons (eVar 0) (eCons (eVar 2) eNil)))) eNil)))
def f__law_word (W : Wd) : FX := runD 4 3 (g__law_word W)
def g__law_chart (W : Wd) : SX := (sSeq (sOwnN 1 (nComp [3] (gV 3) (iRng1D (eCons (eC (.int 2)) eNil)) tYesD (eTup (eCons (eCall (f__law_word W) (eCons (eVar 0) (eCons (eC (.int 1)) (eCons (eLst (eCons (eC (.str "a")) eNil)) eNil)))) (eCons (eCall (f__law_group W) (eCons (eVar 0) (eCons (eC (.bl true)) (eCons (eLst (eCons (eC (.str "a")) eNil)) eNil)))) (eCons (eCall (f__law_word W) (eCons (eVar 0) (eCons (eC (.int 1)) (eCons (eLst (eCons (eC (.str "a")) eNil)) eNil)))) eNil))))))
  (sSeq (sApp 1 (eTup (eCons (eCall (f__law_word W) (eCons (eVar 0) (eCons (eC (.int 3)) (eCons (eLst (eCons (eC (.str "a")) (eCons (eC (.str "b")) eNil))) eNil)))) (eCons (eTup eNil) (eCons (eTup eNil) eNil)))))
  (sSeq (sApp 1 (eTup (eCons (eTup eNil) (eCons (eTup (eCons (eTup (eCons (eC (.str "kfb")) (eCons (eC (.str "a")) eNil))) eNil)) (eCons (eTup eNil) eNil)))))
  (sSeq (sFrz 1) (sSeq (sAsg (gV 2) (eLst eNil))
  (sSeq (sFor (gV 3) (iRng1D (eCons (e2 dAdd (eC (.int 1)) (eCall (f__law_take W) (eCons (eVar 0) (eCons (eC (.int 3)) eNil)))) eNil)) (sSeq (sAsg (gV 4) (eComp [5] (gV 5) (iRng1D (eCons (e2 dAdd (eC (.int 1)) (eCall (f__law_take W) (eCons (eVar 0) (eCons (eC (.int 2)) eNil)))) eNil)) tYesD (eCall (f__law_pick W) (eCons (eVar 0) (eCons (eVar 1) eNil)))))
  (sAsg (gV 2) (e2 dAdd (eVar 2) (e2 dMulL (eVar 4) (e2 dAdd (eC (.int 1)) (eCall (f__law_take W) (eCons (eVar 0) (eCons (eC (.int 3)) eNil)))))))))
  (sRet (eCut (eVar 2) oNone (oSome (eC (.int 9)))))))))))
def f__law_chart (W : Wd) : FX := runD 6 1 (g__law_chart W)
def g__law_kinds : SX := (sSeq (sOwn 0 (.dic [] []))
  (sSeq (sAsg (gV 1) (eC (.str "k 1 1 p k, p 1 1 k p, ktbl 1 1 ptbl ktbl, ptbl 1 1 ktbl ptbl, sl 1 1 slf sl, slf 1 1 sl slf, yo 0 1 yo yo, co 0 1 co co, bo 1 0 bo bo, kfb 1 2 pfb kfb, pfb 1 2 kfb pfb, m1l 0 1 m1lp m1r, m1r 0 1 m1rp m1l, m1lp 0 1 m1l m1rp, m1rp 0 1 m1r m1lp, k2tog 2 1 p2tog ssk, ssk 2 1 ssp k2tog, p2tog 2 1 k2tog ssp, ssp 2 1 ssk p2tog, cdd 3 1 cddp cdd, cddp 3 1 cdd cddp, c2f 2 2 c2fw c2b, c2b 2 2 c2bw c2f, c2fw 2 2 c2f c2bw, c2bw 2 2 c2b c2fw, c4f 4 4 c4fw c4b, c4b 4 4 c4bw c4f, c4fw 4 4 c4f c4bw, c4bw 4 4 c4b c4fw")))
  (sSeq (sFor (gV 2) (iOf (e2 dSplit (eVar 1) (eC (.str ", ")))) (sSeq (sAsg (gV 3) (e2 dSplit (eVar 2) (eC (.str " "))))
  (sPut 0 (e2 dIx (eVar 3) (eC (.int 0))) (eTup (eCons (eB dIntA (eCons (e2 dIx (eVar 3) (eC (.int 1))) eNil)) (eCons (eB dIntA (eCons (e2 dIx (eVar 3) (eC (.int 2))) eNil)) (eCons (e2 dIx (eVar 3) (eC (.int 3))) (eCons (e2 dIx (eVar 3) (eC (.int 4))) eNil))))))))
  (sSeq (sFrz 0) (sRet (eVar 0))))))
def f__law_kinds : FX := runD 4 0 (g__law_kinds)
def g__law_price : SX := (sSeq (sAsg (gV 1) (eComp [2] (gV 2) (iOf (eVar 0)) tYesD (eIf (tB (e2 dEq (e2 dIx (eVar 2) (eC (.int 0))) (eC (.str "row")))) (eCut (eVar 2) (oSome (eC (.int 1))) oNone) (e2 dIx (eVar 2) (eC (.int 2))))))
  (sRet (e2 dAdd (eB dSum (eCons (eComp [3] (gV 3) (iOf (eVar 1)) tYesD (eB dSum (eCons (eComp [4] (gV 4) (iOf (eVar 3)) tYesD (eCall (f__law_cost) (eCons (eVar 4) eNil))) eNil))) eNil)) (eB dSum (eCons (eComp [2] (gV 2) (iOf (eVar 0)) tYesD (eIf (tB (e2 dEq (e2 dIx (eVar 2) (eC (.int 0))) (eC (.str "row")))) (eC (.int 1)) (eC (.int 2)))) eNil)))))
def f__law_price : FX := runD 5 1 (g__law_price)
def g_cheapest_parts : SX := (sSeq (sExp (eCall (f_check_chart) (eCons (eVar 0) eNil)))
  (sSeq (sOwnN 1 (nAdd (eLst (eCons (eTup (eCons (eC (.int 0)) (eCons (eTup eNil) eNil))) eNil)) (eComp [6] (gV 6) (iOf (eVar 0)) tYesD (eC .non))))
  (sSeq (sFor (gV 2) (iRng1D (eCons (eB dLen (eCons (eVar 0) eNil)) eNil)) (sFor (gT (gsC (gV 3) (gsC (gV 4) gsN))) (iOf (eCall (f_parts_from) (eCons (eVar 0) (eCons (eVar 2) eNil)))) (sSeq (sAsg (gV 5) (e2 dAdd (e2 dIx (eOwnIx 1 (eVar 2)) (eC (.int 0))) (eCall (f_part_cost) (eCons (eVar 3) eNil))))
  (sIf (tOrD (tB (e1 (fun d => some (.bl (isNon d))) (eOwnIx 1 (eVar 4)))) (tB (e2 dLt (eVar 5) (e2 dIx (eOwnIx 1 (eVar 4)) (eC (.int 0)))))) (sPutL 1 (eVar 4) (eTup (eCons (eVar 5) (eCons (e2 dAdd (e2 dIx (eOwnIx 1 (eVar 2)) (eC (.int 1))) (eTup (eCons (eVar 3) eNil))) eNil)))) sNx))))
  (sSeq (sFrz 1) (sRet (eMake 3 (f_Chart___init__) (eCons (e2 dIx (e2 dIxA (eVar 1) (eB dLen (eCons (eVar 0) eNil))) (eC (.int 1))) (eCons (eComp [5, 7] (gT (gsC (gV 5) (gsC (gV 7) gsN))) (iOf (eVar 1)) tYesD (eVar 5)) eNil))))))))
def f_cheapest_parts : FX := runD 8 1 (g_cheapest_parts)
def g_law (W : Wd) : SX := (sSeq (sAsg (gV 2) (eCall (f__law_kinds) eNil))
  (sSeq (sAsg (gV 3) (eCall (f__law_chart W) (eCons (eVar 1) eNil)))
  (sSeq (sPar [4, 5] (eCons (eCall (f_cheapest_parts) (eCons (eVar 3) eNil)) (eCons (eCall (f__law_best) (eCons (eVar 3) (eCons (eVar 2) eNil))) eNil)))
  (sSeq (sIf (tOrD (tNotD (tTru (eMeth 3 "shows" (f_Chart_shows) (eVar 4) (eCons (eVar 3) eNil)))) (tOrD (tB (e2 dNe (eCall (f__law_price) (eCons (e1 (dFld 3 "parts") (eVar 4)) eNil)) (e2 dIxA (eVar 5) (eB dLen (eCons (eVar 3) eNil))))) (tB (e2 dNe (eB dLen (eCons (e1 (dFld 3 "bounds") (eVar 4)) eNil)) (e2 dAdd (eB dLen (eCons (eVar 3) eNil)) (eC (.int 1))))))) (sRet (eC (.bl false))) sNx)
  (sSeq (sIf (tOrD (tB (e2 dNe (eCall (f__law_all_rows) (eCons (e1 (dFld 3 "parts") (eVar 4)) (eCons (eC (.int 3)) eNil))) (eVar 3))) (tNotD (tTru (eB dAll (eCons (eComp [10, 11] (gT (gsC (gV 10) (gsC (gV 11) gsN))) (iZipD (eCons (e1 (dFld 3 "bounds") (eVar 4)) (eCons (eVar 5) eNil))) tYesD (e2 dLeA (eVar 10) (eVar 11))) eNil))))) (sRet (eC (.bl false))) sNx)
  (sSeq (sAsg (gV 6) (eB dTupOf (eCons (eComp [12] (gV 12) (iOf (eVar 3)) tYesD (eTup (eCons (eC (.str "row")) (eCons (eVar 12) eNil)))) eNil)))
  (sSeq (sIf (tB (e2 dNe (eMeth 3 "shows" (f_Chart_shows) (eMake 3 (f_Chart___init__) (eCons (eVar 6) (eCons (eVar 5) eNil))) (eCons (eVar 3) eNil)) (e2 dEq (eCall (f__law_price) (eCons (eVar 6) eNil)) (e2 dIxA (eVar 5) (eB dLen (eCons (eVar 3) eNil)))))) (sRet (eC (.bl false))) sNx)
  (sSeq (sIf (tNotD (tTru (eMeth 3 "shows" (f_Chart_shows) (eMake 3 (f_Chart___init__) (eCons (e1 (dFld 3 "parts") (eVar 4)) (eCons (eVar 5) eNil))) (eCons (eVar 3) eNil)))) (sRet (eC (.bl false))) sNx)
  (sSeq (sAsg (gV 7) (e2 dAdd (eC (.int 1)) (eCall (f__law_take W) (eCons (eVar 1) (eCons (eB dLen (eCons (eVar 3) eNil)) eNil)))))
  (sSeq (sAsg (gV 8) (e2 dAdd (e2 dAdd (eCut (eVar 5) oNone (oSome (eVar 7))) (eLst (eCons (e2 dAdd (e2 dAdd (e2 dIxA (eVar 5) (eVar 7)) (eC (.int 1))) (eCall (f__law_take W) (eCons (eVar 1) (eCons (eC (.int 2)) eNil)))) eNil))) (eCut (eVar 5) (oSome (e2 dAdd (eVar 7) (eC (.int 1)))) oNone)))
  (sSeq (sIf (tOrD (tTru (eMeth 3 "shows" (f_Chart_shows) (eMake 3 (f_Chart___init__) (eCons (e1 (dFld 3 "parts") (eVar 4)) (eCons (eVar 8) eNil))) (eCons (eVar 3) eNil))) (tOrD (tTru (eMeth 3 "shows" (f_Chart_shows) (eMake 3 (f_Chart___init__) (eCons (e1 (dFld 3 "parts") (eVar 4)) (eCons (eCut (eVar 5) (oSome (eC (.int 1))) oNone) eNil))) (eCons (eVar 3) eNil))) (tTru (eMeth 3 "shows" (f_Chart_shows) (eVar 4) (eCons (e2 dAdd (eVar 3) (eCut (eVar 3) oNone (oSome (eC (.int 1))))) eNil))))) (sRet (eC (.bl false))) sNx)
  (sSeq (sIf (tTru (eMeth 3 "shows" (f_Chart_shows) (eMake 3 (f_Chart___init__) (eCons (eCut (e1 (dFld 3 "parts") (eVar 4)) (oSome (eC (.int 1))) oNone) (eCons (eVar 5) eNil))) (eCons (eVar 3) eNil))) (sRet (eC (.bl false))) sNx)
  (sSeq (sIf (tOrD (tB (e2 dNe (e1 (dFld 3 "parts") (eCall (f_cheapest_parts) (eCons (eLst eNil) eNil))) (eTup eNil))) (tNotD (tTru (eMeth 3 "shows" (f_Chart_shows) (eCall (f_cheapest_parts) (eCons (eLst eNil) eNil)) (eCons (eLst eNil) eNil))))) (sRet (eC (.bl false))) sNx)
  (sSeq (sFor (gV 9) (iOf (eTup (eCons (eB dTupOf (eCons (eVar 3) eNil)) (eCons (eLst (eCons (eCut (e2 dIx (eVar 3) (eC (.int 0))) oNone (oSome (eC (.int 2)))) eNil)) (eCons (e2 dMulL (eLst (eCons (eTup (eCons (eTup eNil) (eCons (eTup eNil) (eCons (eTup eNil) eNil)))) eNil)) (eC (.int 61))) (eCons (eC .non) eNil)))))) (sTry tr2 (sSeqX (sExp (eCall (f_cheapest_parts) (eCons (eVar 9) eNil))) (sRet (eC (.bl false)))) sNx))
  (sRet (eC (.bl true)))))))))))))))))
end P_k47_whole_charts
namespace P_k47_whole_charts
open PySem PySem.Spec L2 DL
open PyProof.Rows (envOfC)
def top (i : Nat) : Stmt := PySem.Challenge.pw_allstitches_k47_whole_charts.main.body.getD i (.Pass ⟨0, 0, 0, 0⟩)
abbrev s_Chart___init__ : Stmt := inClass (top 46) 0
abbrev N_Chart___init__ : List Str := ["self", "parts", "bounds"]
theorem sc_Chart___init__ : FnScope N_Chart___init__ ["self", "parts", "bounds"] (defScope s_Chart___init__) := ⟨rfl, rfl, rfl, by decide +kernel, rfl, by decide +kernel, by decide +kernel⟩
abbrev s_is_kind : Stmt := top 7
abbrev N_is_kind : List Str := ["thing"]
theorem sc_is_kind : FnScope N_is_kind ["thing"] (defScope s_is_kind) := ⟨rfl, rfl, rfl, by decide +kernel, rfl, by decide +kernel, by decide +kernel⟩
abbrev s_is_yarn : Stmt := top 8
abbrev N_is_yarn : List Str := ["thing"]
theorem sc_is_yarn : FnScope N_is_yarn ["thing"] (defScope s_is_yarn) := ⟨rfl, rfl, rfl, by decide +kernel, rfl, by decide +kernel, by decide +kernel⟩
abbrev s_is_cell : Stmt := top 9
abbrev N_is_cell : List Str := ["thing"]
theorem sc_is_cell : FnScope N_is_cell ["thing"] (defScope s_is_cell) := ⟨rfl, rfl, rfl, by decide +kernel, rfl, by decide +kernel, by decide +kernel⟩
abbrev s_is_word : Stmt := top 10
abbrev N_is_word : List Str := ["thing", "cell"]
theorem sc_is_word : FnScope N_is_word ["thing"] (defScope s_is_word) := ⟨rfl, rfl, rfl, by decide +kernel, rfl, by decide +kernel, by decide +kernel⟩
abbrev s_takes : Stmt := top 11
abbrev N_takes : List Str := ["word", "kind", "yarn"]
theorem sc_takes : FnScope N_takes ["word"] (defScope s_takes) := ⟨rfl, rfl, rfl, by decide +kernel, rfl, by decide +kernel, by decide +kernel⟩
abbrev s_is_row : Stmt := top 24
abbrev N_is_row : List Str := ["thing", "before", "rest", "after", "word"]
theorem sc_is_row : FnScope N_is_row ["thing"] (defScope s_is_row) := ⟨rfl, rfl, rfl, by decide +kernel, rfl, by decide +kernel, by decide +kernel⟩
abbrev s_check_chart : Stmt := top 42
abbrev N_check_chart : List Str := ["rows", "row"]
theorem sc_check_chart : FnScope N_check_chart ["rows"] (defScope s_check_chart) := ⟨rfl, rfl, rfl, by decide +kernel, rfl, by decide +kernel, by decide +kernel⟩
abbrev s_makes : Stmt := top 12
abbrev N_makes : List Str := ["word", "kind", "yarn"]
theorem sc_makes : FnScope N_makes ["word"] (defScope s_makes) := ⟨rfl, rfl, rfl, by decide +kernel, rfl, by decide +kernel, by decide +kernel⟩
abbrev s_is_even : Stmt := top 25
abbrev N_is_even : List Str := ["row"]
theorem sc_is_even : FnScope N_is_even ["row"] (defScope s_is_even) := ⟨rfl, rfl, rfl, by decide +kernel, rfl, by decide +kernel, by decide +kernel⟩
abbrev s_is_number : Stmt := top 14
abbrev N_is_number : List Str := ["thing"]
theorem sc_is_number : FnScope N_is_number ["thing"] (defScope s_is_number) := ⟨rfl, rfl, rfl, by decide +kernel, rfl, by decide +kernel, by decide +kernel⟩
abbrev s_is_line : Stmt := top 18
abbrev N_is_line : List Str := ["thing"]
theorem sc_is_line : FnScope N_is_line ["thing"] (defScope s_is_line) := ⟨rfl, rfl, rfl, by decide +kernel, rfl, by decide +kernel, by decide +kernel⟩
abbrev s_change_of : Stmt := top 28
abbrev N_change_of : List Str := ["row"]
theorem sc_change_of : FnScope N_change_of ["row"] (defScope s_change_of) := ⟨rfl, rfl, rfl, by decide +kernel, rfl, by decide +kernel, by decide +kernel⟩
abbrev s_round_change : Stmt := top 29
abbrev N_round_change : List Str := ["part", "row"]
theorem sc_round_change : FnScope N_round_change ["part"] (defScope s_round_change) := ⟨rfl, rfl, rfl, by decide +kernel, rfl, by decide +kernel, by decide +kernel⟩
abbrev s_is_part : Stmt := top 26
abbrev N_is_part : List Str := ["thing", "row"]
theorem sc_is_part : FnScope N_is_part ["thing"] (defScope s_is_part) := ⟨rfl, rfl, rfl, by decide +kernel, rfl, by decide +kernel, by decide +kernel⟩
abbrev s_is_constant : Stmt := top 47
abbrev N_is_constant : List Str := ["part"]
theorem sc_is_constant : FnScope N_is_constant ["part"] (defScope s_is_constant) := ⟨rfl, rfl, rfl, by decide +kernel, rfl, by decide +kernel, by decide +kernel⟩
abbrev s_periods : Stmt := top 33
abbrev N_periods : List Str := ["word", "many", "part"]
theorem sc_periods : FnScope N_periods ["word"] (defScope s_periods) := ⟨rfl, rfl, rfl, by decide +kernel, rfl, by decide +kernel, by decide +kernel⟩
abbrev s_repeat_cost : Stmt := top 32
abbrev N_repeat_cost : List Str := ["cost", "many"]
theorem sc_repeat_cost : FnScope N_repeat_cost ["cost", "many"] (defScope s_repeat_cost) := ⟨rfl, rfl, rfl, by decide +kernel, rfl, by decide +kernel, by decide +kernel⟩
abbrev s_ways_below : Stmt := top 34
abbrev N_ways_below : List Str := ["word", "low", "high", "table", "found", "part", "cut"]
theorem sc_ways_below : FnScope N_ways_below ["word", "low", "high", "table"] (defScope s_ways_below) := ⟨rfl, rfl, rfl, by decide +kernel, rfl, by decide +kernel, by decide +kernel⟩
abbrev s__filled : Stmt := top 35
abbrev N__filled : List Str := ["word", "table", "how", "many", "low", "price", "way"]
theorem sc__filled : FnScope N__filled ["word"] (defScope s__filled) := ⟨rfl, rfl, rfl, by decide +kernel, rfl, by decide +kernel, by decide +kernel⟩
abbrev s_check_short : Stmt := top 36
abbrev N_check_short : List Str := ["word"]
theorem sc_check_short : FnScope N_check_short ["word"] (defScope s_check_short) := ⟨rfl, rfl, rfl, by decide +kernel, rfl, by decide +kernel, by decide +kernel⟩
abbrev s_least_cost : Stmt := top 37
abbrev N_least_cost : List Str := ["word"]
theorem sc_least_cost : FnScope N_least_cost ["word"] (defScope s_least_cost) := ⟨rfl, rfl, rfl, by decide +kernel, rfl, by decide +kernel, by decide +kernel⟩
abbrev s_row_cost : Stmt := top 39
abbrev N_row_cost : List Str := ["row", "word"]
theorem sc_row_cost : FnScope N_row_cost ["row"] (defScope s_row_cost) := ⟨rfl, rfl, rfl, by decide +kernel, rfl, by decide +kernel, by decide +kernel⟩
abbrev s_rows_of : Stmt := top 27
abbrev N_rows_of : List Str := ["part"]
theorem sc_rows_of : FnScope N_rows_of ["part"] (defScope s_rows_of) := ⟨rfl, rfl, rfl, by decide +kernel, rfl, by decide +kernel, by decide +kernel⟩
abbrev s_part_cost : Stmt := top 44
abbrev N_part_cost : List Str := ["part", "row"]
theorem sc_part_cost : FnScope N_part_cost ["part"] (defScope s_part_cost) := ⟨rfl, rfl, rfl, by decide +kernel, rfl, by decide +kernel, by decide +kernel⟩
abbrev s_parts_from : Stmt := top 45
abbrev N_parts_from : List Str := ["rows", "low", "found", "many", "inner", "turns", "high", "row", "part"]
theorem sc_parts_from : FnScope N_parts_from ["rows", "low"] (defScope s_parts_from) := ⟨rfl, rfl, rfl, by decide +kernel, rfl, by decide +kernel, by decide +kernel⟩
abbrev s_unrolled : Stmt := top 43
abbrev N_unrolled : List Str := ["parts", "found", "part"]
theorem sc_unrolled : FnScope N_unrolled ["parts"] (defScope s_unrolled) := ⟨rfl, rfl, rfl, by decide +kernel, rfl, by decide +kernel, by decide +kernel⟩
abbrev s_Chart_shows : Stmt := inClass (top 46) 1
abbrev N_Chart_shows : List Str := ["self", "rows", "low", "part", "high"]
theorem sc_Chart_shows : FnScope N_Chart_shows ["self", "rows"] (defScope s_Chart_shows) := ⟨rfl, rfl, rfl, by decide +kernel, rfl, by decide +kernel, by decide +kernel⟩
abbrev s__law_all_rows : Stmt := top 61
abbrev N__law_all_rows : List Str := ["_law_parts", "_law_size", "_law_found", "_law_part", "_law_times"]
theorem sc__law_all_rows : FnScope N__law_all_rows ["_law_parts", "_law_size"] (defScope s__law_all_rows) := ⟨rfl, rfl, rfl, by decide +kernel, rfl, by decide +kernel, by decide +kernel⟩
abbrev s__law_makes : Stmt := top 58
abbrev N__law_makes : List Str := ["_law_word_here", "_law_kinds_here", "_law_kind", "_law_yarn"]
theorem sc__law_makes : FnScope N__law_makes ["_law_word_here", "_law_kinds_here"] (defScope s__law_makes) := ⟨rfl, rfl, rfl, by decide +kernel, rfl, by decide +kernel, by decide +kernel⟩
abbrev s__law_takes : Stmt := top 57
abbrev N__law_takes : List Str := ["_law_word_here", "_law_kinds_here", "_law_kind", "_law_yarn"]
theorem sc__law_takes : FnScope N__law_takes ["_law_word_here", "_law_kinds_here"] (defScope s__law_takes) := ⟨rfl, rfl, rfl, by decide +kernel, rfl, by decide +kernel, by decide +kernel⟩
abbrev s__law_blocks : Stmt := top 66
abbrev N__law_blocks : List Str := ["_law_chart_here", "_law_low", "_law_kinds_here", "_law_found", "_law_many", "_law_rows", "_law_even", "_law_change", "_law_turns_here", "_law_row"]
theorem sc__law_blocks : FnScope N__law_blocks ["_law_chart_here", "_law_low", "_law_kinds_here"] (defScope s__law_blocks) := ⟨rfl, rfl, rfl, by decide +kernel, rfl, by decide +kernel, by decide +kernel⟩
abbrev s__law_table_cost : Stmt := top 63
abbrev N__law_table_cost : List Str := ["_law_word_here", "_law_found", "_law_many", "_law_low", "_law_high", "_law_rows", "_law_part", "_law_cut"]
theorem sc__law_table_cost : FnScope N__law_table_cost ["_law_word_here"] (defScope s__law_table_cost) := ⟨rfl, rfl, rfl, by decide +kernel, rfl, by decide +kernel, by decide +kernel⟩
abbrev s__law_cost : Stmt := top 64
abbrev N__law_cost : List Str := ["_law_row", "_law_word_here"]
theorem sc__law_cost : FnScope N__law_cost ["_law_row"] (defScope s__law_cost) := ⟨rfl, rfl, rfl, by decide +kernel, rfl, by decide +kernel, by decide +kernel⟩
abbrev s__law_best : Stmt := top 67
abbrev N__law_best : List Str := ["_law_chart_here", "_law_kinds_here", "_law_best_here", "_law_low", "_law_rows", "_law_turns_here", "_law_high", "_law_row"]
theorem sc__law_best : FnScope N__law_best ["_law_chart_here", "_law_kinds_here"] (defScope s__law_best) := ⟨rfl, rfl, rfl, by decide +kernel, rfl, by decide +kernel, by decide +kernel⟩
abbrev s__law_number : Stmt := top 50
abbrev N__law_number : List Str := ["_law_script", "_law_index", "_law_cell_here", "_law_blend"]
theorem sc__law_number : FnScope N__law_number ["_law_script", "_law_index"] (defScope s__law_number) := ⟨rfl, rfl, rfl, by decide +kernel, rfl, by decide +kernel, by decide +kernel⟩
abbrev s__law_take : Stmt := top 51
abbrev N__law_take : List Str := ["_law_draw", "_law_many"]
theorem sc__law_take : FnScope N__law_take ["_law_draw", "_law_many"] (defScope s__law_take) := ⟨rfl, rfl, rfl, by decide +kernel, rfl, by decide +kernel, by decide +kernel⟩
abbrev s__law_pick : Stmt := top 52
abbrev N__law_pick : List Str := ["_law_draw", "_law_items"]
theorem sc__law_pick : FnScope N__law_pick ["_law_draw", "_law_items"] (defScope s__law_pick) := ⟨rfl, rfl, rfl, by decide +kernel, rfl, by decide +kernel, by decide +kernel⟩
abbrev s__law_group : Stmt := top 55
abbrev N__law_group : List Str := ["_law_draw", "_law_even", "_law_yarns", "_law_ones", "_law_kind"]
theorem sc__law_group : FnScope N__law_group ["_law_draw", "_law_even", "_law_yarns"] (defScope s__law_group) := ⟨rfl, rfl, rfl, by decide +kernel, rfl, by decide +kernel, by decide +kernel⟩
abbrev s__law_cell : Stmt := top 53
abbrev N__law_cell : List Str := ["_law_draw", "_law_yarns", "_law_kinds_here"]
theorem sc__law_cell : FnScope N__law_cell ["_law_draw", "_law_yarns"] (defScope s__law_cell) := ⟨rfl, rfl, rfl, by decide +kernel, rfl, by decide +kernel, by decide +kernel⟩
abbrev s__law_word : Stmt := top 54
abbrev N__law_word : List Str := ["_law_draw", "_law_many", "_law_yarns", "_law_at"]
theorem sc__law_word : FnScope N__law_word ["_law_draw", "_law_many", "_law_yarns"] (defScope s__law_word) := ⟨rfl, rfl, rfl, by decide +kernel, rfl, by decide +kernel, by decide +kernel⟩
abbrev s__law_chart : Stmt := top 65
abbrev N__law_chart : List Str := ["_law_draw", "_law_rows", "_law_found", "_law_turn", "_law_block", "_law_at"]
theorem sc__law_chart : FnScope N__law_chart ["_law_draw"] (defScope s__law_chart) := ⟨rfl, rfl, rfl, by decide +kernel, rfl, by decide +kernel, by decide +kernel⟩
abbrev s__law_kinds : Stmt := top 56
abbrev N__law_kinds : List Str := ["_law_found", "_law_table", "_law_told", "_law_row"]
theorem sc__law_kinds : FnScope N__law_kinds [] (defScope s__law_kinds) := ⟨rfl, rfl, rfl, by decide +kernel, rfl, by decide +kernel, by decide +kernel⟩
abbrev s__law_price : Stmt := top 68
abbrev N__law_price : List Str := ["_law_parts", "_law_rows", "_law_part", "_law_one", "_law_row"]
theorem sc__law_price : FnScope N__law_price ["_law_parts"] (defScope s__law_price) := ⟨rfl, rfl, rfl, by decide +kernel, rfl, by decide +kernel, by decide +kernel⟩
abbrev s_cheapest_parts : Stmt := top 48
abbrev N_cheapest_parts : List Str := ["rows", "best", "low", "part", "high", "price", "row", "parts"]
theorem sc_cheapest_parts : FnScope N_cheapest_parts ["rows"] (defScope s_cheapest_parts) := ⟨rfl, rfl, rfl, by decide +kernel, rfl, by decide +kernel, by decide +kernel⟩
abbrev s_law : Stmt := top 69
abbrev N_law : List Str := ["_law_script", "_law_draw", "_law_kinds_here", "_law_chart_here", "_law_told", "_law_best_here", "_law_plain", "_law_at", "_law_more", "_law_bad", "_law_one", "_law_other", "_law_row"]
theorem sc_law : FnScope N_law ["_law_script"] (defScope s_law) := ⟨rfl, rfl, rfl, by decide +kernel, rfl, by decide +kernel, by decide +kernel⟩
structure Txt (K : PySem.W.Frag) (w : World) (mg : Str → Option Value) (W : Wd) : Prop where
  cl3 : Cls K (W.cl 3)
  x2 : XCls K mg "BadChart" (W.cl 2)
  x1 : XCls K mg "BadWord" (W.cl 1)
  g2 : mg "BadChart" = some (.ref (W.cl 2))
  tr2 : ∀ i b, tr2 i = some b → PySem.W.exmOne K (.ref (W.cl i)) (.ref (W.cl 2)) = some b
  n3_bounds : NoAttr K (W.cl 3) "bounds"
  n3_parts : NoAttr K (W.cl 3) "parts"
  b_abs : mg "abs" = none
  b_all : mg "all" = none
  b_bool : mg "bool" = none
  b_int : mg "int" = none
  b_isinstance : mg "isinstance" = none
  b_len : mg "len" = none
  b_list : mg "list" = none
  b_min : mg "min" = none
  b_range : mg "range" = none
  b_str : mg "str" = none
  b_sum : mg "sum" = none
  b_tuple : mg "tuple" = none
  b_zip : mg "zip" = none
  c_MOST : ∃ t, mg "MOST" = some (.int 60 t)
  c_MOST_BASE : ∃ t, mg "MOST_BASE" = some (.int 99 t)
  c_MOST_CELLS : ∃ t, mg "MOST_CELLS" = some (.int 60 t)
  c_MOST_CHANGE : ∃ t, mg "MOST_CHANGE" = some (.int 12 t)
  c_MOST_CHART : ∃ t, mg "MOST_CHART" = some (.int 60 t)
  c_MOST_REST : ∃ t, mg "MOST_REST" = some (.int 30 t)
  c_MOST_RISE : ∃ t, mg "MOST_RISE" = some (.int 9 t)
  c_MOST_ROWS : ∃ t, mg "MOST_ROWS" = some (.int 20 t)
  kt_KINDS : Tab K w W mg "KINDS" tb_KINDS
section
variable {P : Program} {w : World} {K : PySem.W.Frag} {mg : Str → Option Value} {base : Heap} {W : Wd}
theorem ok_Chart___init__ {f : Addr} {fd : FuncData} (F : Fun K "__init__" "Chart.__init__" s_Chart___init__ f fd) (T : Txt K w mg W)  : FnOk P w K mg base (L2.CX P w) 1 f fd ["self", "parts", "bounds"] (spI K W (f_Chart___init__) 3 2) :=
  okI F sc_Chart___init__ rfl fun cdv A outer s H E hr =>
  (S_cons (S_fld (c := 3) T.cl3 T.n3_parts (pv 0) (dv 1))
  (S_one (S_fld (c := 3) T.cl3 T.n3_bounds (pv 0) (d_Ty (call_listA rfl) q_lstA rfl T.b_list (by decide +kernel) (ds_cons (dv 2) ds_nil)))))
theorem ok_is_kind {f : Addr} {fd : FuncData} (F : Fun K "is_kind" "is_kind" s_is_kind f fd) (T : Txt K w mg W)  : FnOk P w K mg base (L2.CX P w) 1 f fd ["thing"] (spD K W (f_is_kind) 1) :=
  okD F sc_is_kind fun cdv A outer s H E hr =>
  (S_one (S_ret (d_and (d_isi rfl T.b_isinstance rfl T.b_str (by decide +kernel) (dv 0)) (d_one (d_inT T.kt_KINDS rfl (dv 0))))))
theorem ok_is_yarn {f : Addr} {fd : FuncData} (F : Fun K "is_yarn" "is_yarn" s_is_yarn f fd) (T : Txt K w mg W)  : FnOk P w K mg base (L2.CX P w) 1 f fd ["thing"] (spD K W (f_is_yarn) 1) :=
  okD F sc_is_yarn fun cdv A outer s H E hr =>
  (S_one (S_ret (d_and (d_isi rfl T.b_isinstance rfl T.b_str (by decide +kernel) (dv 0)) (d_and (d_eq hr.units (d_B call_len q_len rfl T.b_len (by decide +kernel) (ds_cons (dv 0) ds_nil)) d_int) (d_one (d_chain (op_le.or op_le_str) (op_le.or op_le_str) (q_CA _ _) (q_CA _ _) d_str (dv 0) d_str))))))
theorem ok_is_cell {f : Addr} {fd : FuncData} (F : Fun K "is_cell" "is_cell" s_is_cell f fd) (T : Txt K w mg W) (G_is_kind : Cal P w K mg base "is_kind" 1 (spD K W (f_is_kind) 1)) (G_is_yarn : Cal P w K mg base "is_yarn" 1 (spD K W (f_is_yarn) 1)) : FnOk P w K mg base (L2.CX P w) 2 f fd ["thing"] (spD K W (f_is_cell) 1) :=
  okD F sc_is_cell fun cdv A outer s H E hr =>
  (S_one (S_ret (d_and (d_isi rfl T.b_isinstance rfl T.b_tuple (by decide +kernel) (dv 0)) (d_and (d_eq hr.units (d_B call_len q_len rfl T.b_len (by decide +kernel) (ds_cons (dv 0) ds_nil)) d_int) (d_and (c_call G_is_kind (hr.mono (by decide)) rfl (ds_cons (d_ix (dv 0) d_int) ds_nil) (al_cons al_nil)) (d_one (c_call G_is_yarn (hr.mono (by decide)) rfl (ds_cons (d_ix (dv 0) d_int) ds_nil) (al_cons al_nil))))))))
theorem ok_is_word {f : Addr} {fd : FuncData} (F : Fun K "is_word" "is_word" s_is_word f fd) (T : Txt K w mg W) (G_is_cell : Cal P w K mg base "is_cell" 2 (spD K W (f_is_cell) 1)) : FnOk P w K mg base (L2.CX P w) 3 f fd ["thing"] (spD K W (f_is_word) 1) :=
  okD F sc_is_word fun cdv A outer s H E hr =>
  (S_one (S_ret (d_and (d_isi rfl T.b_isinstance rfl T.b_tuple (by decide +kernel) (dv 0)) (d_one (d_B (cr_all rfl) q_all rfl T.b_all (by decide +kernel) (ds_cons (d_comp rfl sc_is_word.nd (i_of (dv 0)) (blkOk_by (own := [("cell", 1)]) (N := N_is_word) (sc := defScope s_is_word) (by decide +kernel)) (fun _ _ _ _ _ => (pg_name (i := 1) sc_is_word.nd rfl (Or.inl rfl))) (q_gV 1) (by decide) (fun _ _ _ _ _ => ts_nil) (fun _ _ _ _ _ => (c_call G_is_cell (hr.mono (by decide)) rfl (ds_cons (dv 1) ds_nil) (al_cons al_nil)))) ds_nil))))))
theorem ok_takes {f : Addr} {fd : FuncData} (F : Fun K "takes" "takes" s_takes f fd) (T : Txt K w mg W)  : FnOk P w K mg base (L2.CX P w) 1 f fd ["word"] (spD K W (f_takes) 1) :=
  okD F sc_takes fun cdv A outer s H E hr =>
  (S_one (S_ret (d_B (cr_sum rfl) q_sum rfl T.b_sum (by decide +kernel) (ds_cons (d_comp rfl sc_takes.nd (i_of (dv 0)) (blkOk_by (own := [("kind", 1), ("yarn", 2)]) (N := N_takes) (sc := defScope s_takes) (by decide +kernel)) (fun _ _ _ _ _ => (pg_tup rfl (pgs_cons (pg_name (i := 1) sc_takes.nd rfl (Or.inl rfl)) (pgs_cons (pg_name (i := 2) sc_takes.nd rfl (Or.inl rfl)) pgs_nil)))) (q_gT (q_gsC (q_gV 1) (q_gsC (q_gV 2) q_gsN)) (gl_C (gl_C gl_N))) (by decide) (fun _ _ _ _ _ => ts_nil) (fun _ _ _ _ _ => (d_ix (d_ixT T.kt_KINDS rfl (dv 1)) d_int))) ds_nil))))
theorem ok_is_row {f : Addr} {fd : FuncData} (F : Fun K "is_row" "is_row" s_is_row f fd) (T : Txt K w mg W) (G_is_word : Cal P w K mg base "is_word" 3 (spD K W (f_is_word) 1)) (G_takes : Cal P w K mg base "takes" 1 (spD K W (f_takes) 1)) : FnOk P w K mg base (L2.CX P w) 4 f fd ["thing"] (spD K W (f_is_row) 1) :=
  okD F sc_is_row fun cdv A outer s H E hr =>
  (S_cons (S_if (t_w (w_or (t_not (t_tru (d_isi rfl T.b_isinstance rfl T.b_tuple (by decide +kernel) (dv 0)))) (w_or (t_ne hr.units (d_B call_len q_len rfl T.b_len (by decide +kernel) (ds_cons (dv 0) ds_nil)) d_int) (w_or1 (t_not (t_tru (d_B (cr_all rfl) q_all rfl T.b_all (by decide +kernel) (ds_cons (d_comp rfl sc_is_row.nd (i_of (dv 0)) (blkOk_by (own := [("word", 4)]) (N := N_is_row) (sc := defScope s_is_row) (by decide +kernel)) (fun _ _ _ _ _ => (pg_name (i := 4) sc_is_row.nd rfl (Or.inl rfl))) (q_gV 4) (by decide) (fun _ _ _ _ _ => ts_nil) (fun _ _ _ _ _ => (c_call G_is_word (hr.mono (by decide)) rfl (ds_cons (dv 4) ds_nil) (al_cons al_nil)))) ds_nil)))))))) (S_one (S_ret d_bl)) S_nil)
  (S_cons (S_asg (dv 0) (pg_tup rfl (pgs_cons (pg_name (i := 1) sc_is_row.nd rfl (Or.inl rfl)) (pgs_cons (pg_name (i := 2) sc_is_row.nd rfl (Or.inl rfl)) (pgs_cons (pg_name (i := 3) sc_is_row.nd rfl (Or.inl rfl)) pgs_nil)))) (q_gT (q_gsC (q_gV 1) (q_gsC (q_gV 2) (q_gsC (q_gV 3) q_gsN))) (gl_C (gl_C (gl_C gl_N)))))
  (S_cons (S_if (t_w (w_or (t_gt (d_B call_len q_len rfl T.b_len (by decide +kernel) (ds_cons (dv 1) ds_nil)) (d_cint rfl T.c_MOST_CELLS)) (w_or (t_gt (d_B call_len q_len rfl T.b_len (by decide +kernel) (ds_cons (dv 2) ds_nil)) (d_cint rfl T.c_MOST_REST)) (w_or1 (t_gt (d_B call_len q_len rfl T.b_len (by decide +kernel) (ds_cons (dv 3) ds_nil)) (d_cint rfl T.c_MOST_CELLS)))))) (S_one (S_ret d_bl)) S_nil)
  (S_one (S_ret (d_if (t_ne hr.units (dv 2) (d_tup ds_nil)) (d_gt (c_call G_takes (hr.mono (by decide)) rfl (ds_cons (dv 2) ds_nil) (al_cons al_nil)) d_int) (d_eq hr.units (dv 3) (d_tup ds_nil))))))))
theorem ok_check_chart {f : Addr} {fd : FuncData} (F : Fun K "check_chart" "check_chart" s_check_chart f fd) (T : Txt K w mg W) (G_is_row : Cal P w K mg base "is_row" 4 (spD K W (f_is_row) 1)) : FnOk P w K mg base (L2.CX P w) 5 f fd ["rows"] (spD K W (f_check_chart) 1) :=
  okD F sc_check_chart fun cdv A outer s H E hr =>
  (S_one (S_if (t_w (w_or (t_not (t_tru (d_isi rfl T.b_isinstance rfl T.b_list (by decide +kernel) (dv 0)))) (w_or (t_gt (d_B call_len q_len rfl T.b_len (by decide +kernel) (ds_cons (dv 0) ds_nil)) (d_cint rfl T.c_MOST_CHART)) (w_or1 (t_not (t_tru (d_B (cr_all rfl) q_all rfl T.b_all (by decide +kernel) (ds_cons (d_comp rfl sc_check_chart.nd (i_of (dv 0)) (blkOk_by (own := [("row", 1)]) (N := N_check_chart) (sc := defScope s_check_chart) (by decide +kernel)) (fun _ _ _ _ _ => (pg_name (i := 1) sc_check_chart.nd rfl (Or.inl rfl))) (q_gV 1) (by decide) (fun _ _ _ _ _ => ts_nil) (fun _ _ _ _ _ => (c_call G_is_row (hr.mono (by decide)) rfl (ds_cons (dv 1) ds_nil) (al_cons al_nil)))) ds_nil)))))))) (S_one (S_raise rfl T.x2 rfl)) S_nil))
theorem ok_makes {f : Addr} {fd : FuncData} (F : Fun K "makes" "makes" s_makes f fd) (T : Txt K w mg W)  : FnOk P w K mg base (L2.CX P w) 1 f fd ["word"] (spD K W (f_makes) 1) :=
  okD F sc_makes fun cdv A outer s H E hr =>
  (S_one (S_ret (d_B (cr_sum rfl) q_sum rfl T.b_sum (by decide +kernel) (ds_cons (d_comp rfl sc_makes.nd (i_of (dv 0)) (blkOk_by (own := [("kind", 1), ("yarn", 2)]) (N := N_makes) (sc := defScope s_makes) (by decide +kernel)) (fun _ _ _ _ _ => (pg_tup rfl (pgs_cons (pg_name (i := 1) sc_makes.nd rfl (Or.inl rfl)) (pgs_cons (pg_name (i := 2) sc_makes.nd rfl (Or.inl rfl)) pgs_nil)))) (q_gT (q_gsC (q_gV 1) (q_gsC (q_gV 2) q_gsN)) (gl_C (gl_C gl_N))) (by decide) (fun _ _ _ _ _ => ts_nil) (fun _ _ _ _ _ => (d_ix (d_ixT T.kt_KINDS rfl (dv 1)) d_int))) ds_nil))))
theorem ok_is_even {f : Addr} {fd : FuncData} (F : Fun K "is_even" "is_even" s_is_even f fd) (T : Txt K w mg W) (G_makes : Cal P w K mg base "makes" 1 (spD K W (f_makes) 1)) (G_takes : Cal P w K mg base "takes" 1 (spD K W (f_takes) 1)) : FnOk P w K mg base (L2.CX P w) 2 f fd ["row"] (spD K W (f_is_even) 1) :=
  okD F sc_is_even fun cdv A outer s H E hr =>
  (S_one (S_ret (d_eq hr.units (c_call G_takes (hr.mono (by decide)) rfl (ds_cons (d_ix (dv 0) d_int) ds_nil) (al_cons al_nil)) (c_call G_makes (hr.mono (by decide)) rfl (ds_cons (d_ix (dv 0) d_int) ds_nil) (al_cons al_nil)))))
theorem ok_is_number {f : Addr} {fd : FuncData} (F : Fun K "is_number" "is_number" s_is_number f fd) (T : Txt K w mg W)  : FnOk P w K mg base (L2.CX P w) 1 f fd ["thing"] (spD K W (f_is_number) 1) :=
  okD F sc_is_number fun cdv A outer s H E hr =>
  (S_one (S_ret (d_and (d_isi rfl T.b_isinstance rfl T.b_int (by decide +kernel) (dv 0)) (d_one (d_not (d_isi rfl T.b_isinstance rfl T.b_bool (by decide +kernel) (dv 0)))))))
theorem ok_is_line {f : Addr} {fd : FuncData} (F : Fun K "is_line" "is_line" s_is_line f fd) (T : Txt K w mg W) (G_is_number : Cal P w K mg base "is_number" 1 (spD K W (f_is_number) 1)) : FnOk P w K mg base (L2.CX P w) 2 f fd ["thing"] (spD K W (f_is_line) 1) :=
  okD F sc_is_line fun cdv A outer s H E hr =>
  (S_cons (S_if (t_w (w_or (t_not (t_tru (d_isi rfl T.b_isinstance rfl T.b_tuple (by decide +kernel) (dv 0)))) (w_or1 (t_ne hr.units (d_B call_len q_len rfl T.b_len (by decide +kernel) (ds_cons (dv 0) ds_nil)) d_int)))) (S_one (S_ret d_bl)) S_nil)
  (S_cons (S_if (t_w (w_or (t_not (t_tru (c_call G_is_number (hr.mono (by decide)) rfl (ds_cons (d_ix (dv 0) d_int) ds_nil) (al_cons al_nil)))) (w_or1 (t_not (t_tru (c_call G_is_number (hr.mono (by decide)) rfl (ds_cons (d_ix (dv 0) d_int) ds_nil) (al_cons al_nil))))))) (S_one (S_ret d_bl)) S_nil)
  (S_one (S_ret (d_and (d_leA (d_B call_abs q_abs rfl T.b_abs (by decide +kernel) (ds_cons (d_ix (dv 0) d_int) ds_nil)) (d_cint rfl T.c_MOST_BASE)) (d_one (d_leA (d_B call_abs q_abs rfl T.b_abs (by decide +kernel) (ds_cons (d_ix (dv 0) d_int) ds_nil)) (d_cint rfl T.c_MOST_RISE))))))))
theorem ok_change_of {f : Addr} {fd : FuncData} (F : Fun K "change_of" "change_of" s_change_of f fd) (T : Txt K w mg W) (G_makes : Cal P w K mg base "makes" 1 (spD K W (f_makes) 1)) (G_takes : Cal P w K mg base "takes" 1 (spD K W (f_takes) 1)) : FnOk P w K mg base (L2.CX P w) 2 f fd ["row"] (spD K W (f_change_of) 1) :=
  okD F sc_change_of fun cdv A outer s H E hr =>
  (S_one (S_ret (d_sub (d_sub (d_add (c_call G_makes (hr.mono (by decide)) rfl (ds_cons (d_ix (dv 0) d_int) ds_nil) (al_cons al_nil)) (c_call G_makes (hr.mono (by decide)) rfl (ds_cons (d_ix (dv 0) d_int) ds_nil) (al_cons al_nil))) (c_call G_takes (hr.mono (by decide)) rfl (ds_cons (d_ix (dv 0) d_int) ds_nil) (al_cons al_nil))) (c_call G_takes (hr.mono (by decide)) rfl (ds_cons (d_ix (dv 0) d_int) ds_nil) (al_cons al_nil)))))
theorem ok_round_change {f : Addr} {fd : FuncData} (F : Fun K "round_change" "round_change" s_round_change f fd) (T : Txt K w mg W) (G_change_of : Cal P w K mg base "change_of" 2 (spD K W (f_change_of) 1)) : FnOk P w K mg base (L2.CX P w) 3 f fd ["part"] (spD K W (f_round_change) 1) :=
  okD F sc_round_change fun cdv A outer s H E hr =>
  (S_one (S_ret (d_B (cr_sum rfl) q_sum rfl T.b_sum (by decide +kernel) (ds_cons (d_comp rfl sc_round_change.nd (i_of (d_ix (dv 0) d_int)) (blkOk_by (own := [("row", 1)]) (N := N_round_change) (sc := defScope s_round_change) (by decide +kernel)) (fun _ _ _ _ _ => (pg_name (i := 1) sc_round_change.nd rfl (Or.inl rfl))) (q_gV 1) (by decide) (fun _ _ _ _ _ => ts_nil) (fun _ _ _ _ _ => (c_call G_change_of (hr.mono (by decide)) rfl (ds_cons (dv 1) ds_nil) (al_cons al_nil)))) ds_nil))))
theorem ok_is_part {f : Addr} {fd : FuncData} (F : Fun K "is_part" "is_part" s_is_part f fd) (T : Txt K w mg W) (G_is_even : Cal P w K mg base "is_even" 2 (spD K W (f_is_even) 1)) (G_is_line : Cal P w K mg base "is_line" 2 (spD K W (f_is_line) 1)) (G_is_row : Cal P w K mg base "is_row" 4 (spD K W (f_is_row) 1)) (G_round_change : Cal P w K mg base "round_change" 3 (spD K W (f_round_change) 1)) : FnOk P w K mg base (L2.CX P w) 5 f fd ["thing"] (spD K W (f_is_part) 1) :=
  okD F sc_is_part fun cdv A outer s H E hr =>
  (S_cons (S_if (t_w (w_or (t_not (t_tru (d_isi rfl T.b_isinstance rfl T.b_tuple (by decide +kernel) (dv 0)))) (w_or1 (t_eq hr.units (d_B call_len q_len rfl T.b_len (by decide +kernel) (ds_cons (dv 0) ds_nil)) d_int)))) (S_one (S_ret d_bl)) S_nil)
  (S_cons (S_if (t_eq hr.units (d_ix (dv 0) d_int) d_str) (S_one (S_ret (d_and (d_eq hr.units (d_B call_len q_len rfl T.b_len (by decide +kernel) (ds_cons (dv 0) ds_nil)) d_int) (d_one (c_call G_is_row (hr.mono (by decide)) rfl (ds_cons (d_ix (dv 0) d_int) ds_nil) (al_cons al_nil)))))) S_nil)
  (S_cons (S_if (t_w (w_or (t_ne hr.units (d_ix (dv 0) d_int) d_str) (w_or (t_ne hr.units (d_B call_len q_len rfl T.b_len (by decide +kernel) (ds_cons (dv 0) ds_nil)) d_int) (w_or (t_not (t_tru (c_call G_is_line (hr.mono (by decide)) rfl (ds_cons (d_ix (dv 0) d_int) ds_nil) (al_cons al_nil)))) (w_or1 (t_not (t_tru (d_isi rfl T.b_isinstance rfl T.b_tuple (by decide +kernel) (d_ix (dv 0) d_int))))))))) (S_one (S_ret d_bl)) S_nil)
  (S_cons (S_if (t_w (w_or (t_not (t_chain (op_le.or op_le_str) (op_le.or op_le_str) (q_CA _ _) (q_CA _ _) d_int (d_B call_len q_len rfl T.b_len (by decide +kernel) (ds_cons (d_ix (dv 0) d_int) ds_nil)) (d_cint rfl T.c_MOST_ROWS))) (w_or1 (t_not (t_tru (d_B (cr_all rfl) q_all rfl T.b_all (by decide +kernel) (ds_cons (d_comp rfl sc_is_part.nd (i_of (d_ix (dv 0) d_int)) (blkOk_by (own := [("row", 1)]) (N := N_is_part) (sc := defScope s_is_part) (by decide +kernel)) (fun _ _ _ _ _ => (pg_name (i := 1) sc_is_part.nd rfl (Or.inl rfl))) (q_gV 1) (by decide) (fun _ _ _ _ _ => ts_nil) (fun _ _ _ _ _ => (d_and (c_call G_is_row (hr.mono (by decide)) rfl (ds_cons (dv 1) ds_nil) (al_cons al_nil)) (d_one (c_call G_is_even (hr.mono (by decide)) rfl (ds_cons (dv 1) ds_nil) (al_cons al_nil)))))) ds_nil))))))) (S_one (S_ret d_bl)) S_nil)
  (S_one (S_ret (d_leA (d_B call_abs q_abs rfl T.b_abs (by decide +kernel) (ds_cons (c_call G_round_change (hr.mono (by decide)) rfl (ds_cons (dv 0) ds_nil) (al_cons al_nil)) ds_nil)) (d_cint rfl T.c_MOST_CHANGE))))))))
theorem ok_is_constant {f : Addr} {fd : FuncData} (F : Fun K "is_constant" "is_constant" s_is_constant f fd) (T : Txt K w mg W) (G_is_part : Cal P w K mg base "is_part" 5 (spD K W (f_is_part) 1)) : FnOk P w K mg base (L2.CX P w) 6 f fd ["part"] (spD K W (f_is_constant) 1) :=
  okD F sc_is_constant fun cdv A outer s H E hr =>
  (S_one (S_ret (d_and (c_call G_is_part (hr.mono (by decide)) rfl (ds_cons (dv 0) ds_nil) (al_cons al_nil)) (d_one (d_or (d_eq hr.units (d_ix (dv 0) d_int) d_str) (d_one (d_and (d_eq hr.units (d_ix (d_ix (dv 0) d_int) d_int) d_int) (d_one (d_ge (d_ix (d_ix (dv 0) d_int) d_int) d_int)))))))))
theorem ok_periods {f : Addr} {fd : FuncData} (F : Fun K "periods" "periods" s_periods f fd) (T : Txt K w mg W)  : FnOk P w K mg base (L2.CX P w) 1 f fd ["word"] (spD K W (f_periods) 1) :=
  okD F sc_periods fun cdv A outer s H E hr =>
  (S_cons (S_asg (d_B call_len q_len rfl T.b_len (by decide +kernel) (ds_cons (dv 0) ds_nil)) (pg_name (i := 1) sc_periods.nd rfl (Or.inr rfl)) (q_gV 1))
  (S_one (S_ret (d_comp rfl sc_periods.nd (i_rng2 rfl T.b_range (ds_cons d_int (ds_cons (dv 1) ds_nil))) (blkOk_by (own := [("part", 2)]) (N := N_periods) (sc := defScope s_periods) (by decide +kernel)) (fun _ _ _ _ _ => (pg_name (i := 2) sc_periods.nd rfl (Or.inl rfl))) (q_gV 2) (by decide) (fun _ _ _ _ _ => (ts_one (t_w (w_and (t_eq hr.units (d_mod (dv 1) (dv 2)) d_int) (w_and1 (t_eq hr.units (d_cut (dv 0) (o_some (dv 2)) o_none) (d_cut (dv 0) o_none (o_some (d_sub (dv 1) (dv 2)))))))))) (fun _ _ _ _ _ => (dv 2))))))
theorem ok_repeat_cost {f : Addr} {fd : FuncData} (F : Fun K "repeat_cost" "repeat_cost" s_repeat_cost f fd) (T : Txt K w mg W)  : FnOk P w K mg base (L2.CX P w) 1 f fd ["cost", "many"] (spD K W (f_repeat_cost) 2) :=
  okD F sc_repeat_cost fun cdv A outer s H E hr =>
  (S_one (S_ret (d_add (dv 0) (d_if (t_eq hr.units (dv 1) d_int) d_int d_int))))
theorem ok_ways_below {f : Addr} {fd : FuncData} (F : Fun K "ways_below" "ways_below" s_ways_below f fd) (T : Txt K w mg W) (G_periods : Cal P w K mg base "periods" 1 (spD K W (f_periods) 1)) (G_repeat_cost : Cal P w K mg base "repeat_cost" 1 (spD K W (f_repeat_cost) 2)) : FnOk P w K mg base (L2.CX P w) 2 f fd ["word", "low", "high", "table"] (spD K W (f_ways_below) 4) :=
  okD F sc_ways_below fun cdv A outer s H E hr =>
  (S_cons (S_if (t_eq hr.units (dv 2) (d_add (dv 1) d_int)) (S_one (S_ret (d_lst (ds_cons (d_tup (ds_cons d_int (ds_cons (d_tup (ds_cons d_str ds_nil)) ds_nil))) ds_nil)))) S_nil)
  (S_cons (S_ownComp (i := 4) rfl sc_ways_below.nd rfl rfl (sw_true rfl rfl rfl (by decide +kernel)) (i_rng2 rfl T.b_range (ds_cons (d_add (dv 1) d_int) (ds_cons (dv 2) ds_nil))) (blkOk_by (own := [("cut", 6)]) (N := N_ways_below) (sc := defScope s_ways_below) (by decide +kernel)) (fun _ _ _ _ _ => (pg_name (i := 6) sc_ways_below.nd rfl (Or.inl rfl))) (q_gV 6) (by decide) (fun _ _ _ _ _ => ts_nil) (fun _ _ _ _ _ => (d_tup (ds_cons (d_add (d_ixT2 hr.units (dv 3) (ds_cons (dv 1) (ds_cons (dv 6) ds_nil))) (d_ixT2 hr.units (dv 3) (ds_cons (dv 6) (ds_cons (dv 2) ds_nil)))) (ds_cons (d_tup (ds_cons d_str (ds_cons (dv 6) ds_nil))) ds_nil)))))
  (S_cons (S_for (L2.passes_of rfl) rfl (i_of (c_call G_periods (hr.mono (by decide)) rfl (ds_cons (d_cut (dv 0) (o_some (dv 1)) (o_some (dv 2))) ds_nil) (al_cons al_nil))) (pg_name (i := 5) sc_ways_below.nd rfl (Or.inl rfl)) (q_gV 5) (S_one (S_app (d_tup (ds_cons (c_call G_repeat_cost (hr.mono (by decide)) rfl (ds_cons (d_ixT2 hr.units (dv 3) (ds_cons (dv 1) (ds_cons (d_add (dv 1) (dv 5)) ds_nil))) (ds_cons (dv 5) ds_nil)) (al_cons (al_cons al_nil))) (ds_cons (d_tup (ds_cons d_str (ds_cons (dv 5) ds_nil))) ds_nil))) (pe_bm PySem.F.plainAttrs_list PySem.F.slot_list_append PySem.F.type_list_append mt_append (pv 4) (pa_cons (d_tup (ds_cons (c_call G_repeat_cost (hr.mono (by decide)) rfl (ds_cons (d_ixT2 hr.units (dv 3) (ds_cons (dv 1) (ds_cons (d_add (dv 1) (dv 5)) ds_nil))) (ds_cons (dv 5) ds_nil)) (al_cons (al_cons al_nil))) (ds_cons (d_tup (ds_cons d_str (ds_cons (dv 5) ds_nil))) ds_nil))) pa_nil)))))
  (S_frz (i := 4) (S_one (S_ret (dv 4)))))))
theorem ok__filled {f : Addr} {fd : FuncData} (F : Fun K "_filled" "_filled" s__filled f fd) (T : Txt K w mg W) (G_ways_below : Cal P w K mg base "ways_below" 2 (spD K W (f_ways_below) 4)) {cc PP : Addr} (TBc : LamX.TabB base mg cc PP) (hTb : W.tb = [(PP, (("_filled" : Str) ++ (".<locals>." : Str)) ++ ("<lambda>" : Str))]) (hcd0 : ∀ cdv, Cdv fd cdv → cdv = .ref cc) : FnOk P w K mg base (L2.CX P w) 3 f fd ["word"] (spD K W (f__filled) 1) :=
  okDc F sc__filled fun cdv hcv A outer s H E hr =>
  have hcd := hcd0 cdv hcv
  (S_cons (S_dit2 (i := 1) (j := 2) rfl sc__filled.nd rfl rfl (by decide) rfl rfl (by rfl))
  (S_cons (S_for (L2.passes_of rfl) rfl (i_rng2 rfl T.b_range (ds_cons d_int (ds_cons (d_add (d_B call_len q_len rfl T.b_len (by decide +kernel) (ds_cons (dv 0) ds_nil)) d_int) ds_nil))) (pg_name (i := 3) sc__filled.nd rfl (Or.inl rfl)) (q_gV 3) (S_one (S_for (L2.passes_of rfl) rfl (i_rng1 rfl T.b_range (ds_cons (d_add (d_sub (d_B call_len q_len rfl T.b_len (by decide +kernel) (ds_cons (dv 0) ds_nil)) (dv 3)) d_int) ds_nil)) (pg_name (i := 4) sc__filled.nd rfl (Or.inl rfl)) (q_gV 4) (S_cons (S_asg (d_lend (i := 1) (d_minK rfl T.b_min (c_call G_ways_below (hr.mono (by decide)) rfl (ds_cons (dv 0) (ds_cons (dv 4) (ds_cons (d_add (dv 4) (dv 3)) (ds_cons (dv 1) ds_nil)))) (al_cons (al_cons (al_cons (al_cons al_nil))))) TBc hcd hTb (hr.mono (by decide)) (lamP_by (by decide +kernel)) rfl (fun _ _ _ _ _ _ => rfl))) (pg_tup rfl (pgs_cons (pg_name (i := 5) sc__filled.nd rfl (Or.inl rfl)) (pgs_cons (pg_name (i := 6) sc__filled.nd rfl (Or.inl rfl)) pgs_nil))) (q_gT (q_gsC (q_gV 5) (q_gsC (q_gV 6) q_gsN)) (gl_C (gl_C gl_N))))
  (S_cons (S_dputT (i := 1) hr.units (pv 1) (ds_cons (dv 4) (ds_cons (d_add (dv 4) (dv 3)) ds_nil)) (dv 5))
  (S_one (S_dputT (i := 2) hr.units (pv 2) (ds_cons (dv 4) (ds_cons (d_add (dv 4) (dv 3)) ds_nil)) (dv 6))))))))
  (S_frz (i := 1) (S_frz (i := 2) (S_one (S_ret (d_tup (ds_cons (dv 1) (ds_cons (dv 2) ds_nil)))))))))
theorem ok_check_short {f : Addr} {fd : FuncData} (F : Fun K "check_short" "check_short" s_check_short f fd) (T : Txt K w mg W) (G_is_word : Cal P w K mg base "is_word" 3 (spD K W (f_is_word) 1)) : FnOk P w K mg base (L2.CX P w) 4 f fd ["word"] (spD K W (f_check_short) 1) :=
  okD F sc_check_short fun cdv A outer s H E hr =>
  (S_one (S_if (t_w (w_or (t_not (t_tru (c_call G_is_word (hr.mono (by decide)) rfl (ds_cons (dv 0) ds_nil) (al_cons al_nil)))) (w_or1 (t_gt (d_B call_len q_len rfl T.b_len (by decide +kernel) (ds_cons (dv 0) ds_nil)) (d_cint rfl T.c_MOST))))) (S_one (S_raise rfl T.x1 rfl)) S_nil))
theorem ok_least_cost {f : Addr} {fd : FuncData} (F : Fun K "least_cost" "least_cost" s_least_cost f fd) (T : Txt K w mg W) (G__filled : Cal P w K mg base "_filled" 3 (spD K W (f__filled) 1)) (G_check_short : Cal P w K mg base "check_short" 4 (spD K W (f_check_short) 1)) : FnOk P w K mg base (L2.CX P w) 5 f fd ["word"] (spD K W (f_least_cost) 1) :=
  okD F sc_least_cost fun cdv A outer s H E hr =>
  (S_cons (S_exp (c_call G_check_short (hr.mono (by decide)) rfl (ds_cons (dv 0) ds_nil) (al_cons al_nil)))
  (S_one (S_ret (d_if (t_eq hr.units (dv 0) (d_tup ds_nil)) d_int (d_ixT2 hr.units (d_ix (c_call G__filled (hr.mono (by decide)) rfl (ds_cons (dv 0) ds_nil) (al_cons al_nil)) d_int) (ds_cons d_int (ds_cons (d_B call_len q_len rfl T.b_len (by decide +kernel) (ds_cons (dv 0) ds_nil)) ds_nil)))))))
theorem ok_row_cost {f : Addr} {fd : FuncData} (F : Fun K "row_cost" "row_cost" s_row_cost f fd) (T : Txt K w mg W) (G_least_cost : Cal P w K mg base "least_cost" 5 (spD K W (f_least_cost) 1)) : FnOk P w K mg base (L2.CX P w) 6 f fd ["row"] (spD K W (f_row_cost) 1) :=
  okD F sc_row_cost fun cdv A outer s H E hr =>
  (S_one (S_ret (d_add (d_B (cr_sum rfl) q_sum rfl T.b_sum (by decide +kernel) (ds_cons (d_comp rfl sc_row_cost.nd (i_of (dv 0)) (blkOk_by (own := [("word", 1)]) (N := N_row_cost) (sc := defScope s_row_cost) (by decide +kernel)) (fun _ _ _ _ _ => (pg_name (i := 1) sc_row_cost.nd rfl (Or.inl rfl))) (q_gV 1) (by decide) (fun _ _ _ _ _ => ts_nil) (fun _ _ _ _ _ => (c_call G_least_cost (hr.mono (by decide)) rfl (ds_cons (dv 1) ds_nil) (al_cons al_nil)))) ds_nil)) (d_if (t_ne hr.units (d_ix (dv 0) d_int) (d_tup ds_nil)) d_int d_int))))
theorem ok_rows_of {f : Addr} {fd : FuncData} (F : Fun K "rows_of" "rows_of" s_rows_of f fd) (T : Txt K w mg W)  : FnOk P w K mg base (L2.CX P w) 1 f fd ["part"] (spD K W (f_rows_of) 1) :=
  okD F sc_rows_of fun cdv A outer s H E hr =>
  (S_one (S_ret (d_if (t_eq hr.units (d_ix (dv 0) d_int) d_str) (d_cut (dv 0) (o_some d_int) o_none) (d_ix (dv 0) d_int))))
theorem ok_part_cost {f : Addr} {fd : FuncData} (F : Fun K "part_cost" "part_cost" s_part_cost f fd) (T : Txt K w mg W) (G_row_cost : Cal P w K mg base "row_cost" 6 (spD K W (f_row_cost) 1)) (G_rows_of : Cal P w K mg base "rows_of" 1 (spD K W (f_rows_of) 1)) : FnOk P w K mg base (L2.CX P w) 7 f fd ["part"] (spD K W (f_part_cost) 1) :=
  okD F sc_part_cost fun cdv A outer s H E hr =>
  (S_one (S_ret (d_add (d_if (t_eq hr.units (d_ix (dv 0) d_int) d_str) d_int d_int) (d_B (cr_sum rfl) q_sum rfl T.b_sum (by decide +kernel) (ds_cons (d_comp rfl sc_part_cost.nd (i_of (c_call G_rows_of (hr.mono (by decide)) rfl (ds_cons (dv 0) ds_nil) (al_cons al_nil))) (blkOk_by (own := [("row", 1)]) (N := N_part_cost) (sc := defScope s_part_cost) (by decide +kernel)) (fun _ _ _ _ _ => (pg_name (i := 1) sc_part_cost.nd rfl (Or.inl rfl))) (q_gV 1) (by decide) (fun _ _ _ _ _ => ts_nil) (fun _ _ _ _ _ => (c_call G_row_cost (hr.mono (by decide)) rfl (ds_cons (dv 1) ds_nil) (al_cons al_nil)))) ds_nil)))))
theorem ok_parts_from {f : Addr} {fd : FuncData} (F : Fun K "parts_from" "parts_from" s_parts_from f fd) (T : Txt K w mg W) (G_is_even : Cal P w K mg base "is_even" 2 (spD K W (f_is_even) 1)) (G_is_part : Cal P w K mg base "is_part" 5 (spD K W (f_is_part) 1)) : FnOk P w K mg base (L2.CX P w) 6 f fd ["rows", "low"] (spD K W (f_parts_from) 2) :=
  okD F sc_parts_from fun cdv A outer s H E hr =>
  (S_cons (S_ownN (i := 2) sc_parts_from.nd rfl (Or.inl rfl) (n_lst (ds_cons (d_tup (ds_cons (d_tup (ds_cons d_str (ds_cons (d_ixA hr.units (dv 0) (dv 1)) ds_nil))) (ds_cons (d_add (dv 1) d_int) ds_nil))) ds_nil)))
  (S_cons (S_for (L2.passes_of rfl) rfl (i_rng2 rfl T.b_range (ds_cons d_int (ds_cons (d_add (d_B (call_min2 rfl) q_min2 rfl T.b_min (by decide +kernel) (ds_cons (d_cint rfl T.c_MOST_ROWS) (ds_cons (d_div (d_sub (d_B call_len q_len rfl T.b_len (by decide +kernel) (ds_cons (dv 0) ds_nil)) (dv 1)) d_int) ds_nil))) d_int) ds_nil))) (pg_name (i := 3) sc_parts_from.nd rfl (Or.inl rfl)) (q_gV 3) (S_cons (S_asg (d_cut (dv 0) (o_some (dv 1)) (o_some (d_add (dv 1) (dv 3)))) (pg_name (i := 4) sc_parts_from.nd rfl (Or.inl rfl)) (q_gV 4))
  (S_cons (S_if (t_not (t_tru (d_B (cr_all rfl) q_all rfl T.b_all (by decide +kernel) (ds_cons (d_comp rfl sc_parts_from.nd (i_of (dv 4)) (blkOk_by (own := [("row", 7)]) (N := N_parts_from) (sc := defScope s_parts_from) (by decide +kernel)) (fun _ _ _ _ _ => (pg_name (i := 7) sc_parts_from.nd rfl (Or.inl rfl))) (q_gV 7) (by decide) (fun _ _ _ _ _ => ts_nil) (fun _ _ _ _ _ => (c_call G_is_even (hr.mono (by decide)) rfl (ds_cons (dv 7) ds_nil) (al_cons al_nil)))) ds_nil)))) (S_one S_break) S_nil)
  (S_cons (S_par2 (ps_par (i := 5) (j := 6) rfl sc_parts_from.nd rfl rfl (by decide) rfl rfl (ds_cons d_int (ds_cons (d_add (dv 1) (dv 3)) ds_nil)) (by rfl)))
  (S_one (S_while (fun _ => 1000000) (L2.passes_of rfl) (t_eq hr.units (d_cut (dv 0) (o_some (dv 6)) (o_some (d_add (dv 6) (dv 3)))) (dv 4)) (S_cons (S_par2 (ps_par (i := 5) (j := 6) rfl sc_parts_from.nd rfl rfl (by decide) rfl rfl (ds_cons (d_add (dv 5) d_int) (ds_cons (d_add (dv 6) (dv 3)) ds_nil)) (by rfl)))
  (S_one (S_app (d_tup (ds_cons (d_tup (ds_cons d_str (ds_cons (d_tup (ds_cons (dv 5) (ds_cons d_int ds_nil))) (ds_cons (d_Ty call_tuple_of q_tupOf rfl T.b_tuple (by decide +kernel) (ds_cons (dv 4) ds_nil)) ds_nil)))) (ds_cons (dv 6) ds_nil))) (pe_bm PySem.F.plainAttrs_list PySem.F.slot_list_append PySem.F.type_list_append mt_append (pv 2) (pa_cons (d_tup (ds_cons (d_tup (ds_cons d_str (ds_cons (d_tup (ds_cons (dv 5) (ds_cons d_int ds_nil))) (ds_cons (d_Ty call_tuple_of q_tupOf rfl T.b_tuple (by decide +kernel) (ds_cons (dv 4) ds_nil)) ds_nil)))) (ds_cons (dv 6) ds_nil))) pa_nil)))))))))))
  (S_frz (i := 2) (S_one (S_ret (d_comp rfl sc_parts_from.nd (i_of (dv 2)) (blkOk_by (own := [("part", 8), ("high", 6)]) (N := N_parts_from) (sc := defScope s_parts_from) (by decide +kernel)) (fun _ _ _ _ _ => (pg_tup rfl (pgs_cons (pg_name (i := 8) sc_parts_from.nd rfl (Or.inl rfl)) (pgs_cons (pg_name (i := 6) sc_parts_from.nd rfl (Or.inl rfl)) pgs_nil)))) (q_gT (q_gsC (q_gV 8) (q_gsC (q_gV 6) q_gsN)) (gl_C (gl_C gl_N))) (by decide) (fun _ _ _ _ _ => (ts_one (t_tru (c_call G_is_part (hr.mono (by decide)) rfl (ds_cons (dv 8) ds_nil) (al_cons al_nil))))) (fun _ _ _ _ _ => (d_tup (ds_cons (dv 8) (ds_cons (dv 6) ds_nil))))))))))
theorem ok_unrolled {f : Addr} {fd : FuncData} (F : Fun K "unrolled" "unrolled" s_unrolled f fd) (T : Txt K w mg W) (G_rows_of : Cal P w K mg base "rows_of" 1 (spD K W (f_rows_of) 1)) : FnOk P w K mg base (L2.CX P w) 2 f fd ["parts"] (spD K W (f_unrolled) 1) :=
  okD F sc_unrolled fun cdv A outer s H E hr =>
  (S_cons (S_nil_ (i := 1) sc_unrolled.nd rfl (Or.inl rfl))
  (S_cons (S_for (L2.passes_of rfl) rfl (i_of (dv 0)) (pg_name (i := 2) sc_unrolled.nd rfl (Or.inl rfl)) (q_gV 2) (S_one (S_extM (d_mulL (d_Ty (call_listA rfl) q_lstA rfl T.b_list (by decide +kernel) (ds_cons (c_call G_rows_of (hr.mono (by decide)) rfl (ds_cons (dv 2) ds_nil) (al_cons al_nil)) ds_nil)) (d_if (t_eq hr.units (d_ix (dv 2) d_int) d_str) (d_ix (d_ix (dv 2) d_int) d_int) d_int)) (pe_bm PySem.F.plainAttrs_list PySem.F.slot_list_extend PySem.F.type_list_extend mt_extend (pv 1) (pa_cons (d_mulL (d_Ty (call_listA rfl) q_lstA rfl T.b_list (by decide +kernel) (ds_cons (c_call G_rows_of (hr.mono (by decide)) rfl (ds_cons (dv 2) ds_nil) (al_cons al_nil)) ds_nil)) (d_if (t_eq hr.units (d_ix (dv 2) d_int) d_str) (d_ix (d_ix (dv 2) d_int) d_int) d_int)) pa_nil)))))
  (S_frz (i := 1) (S_one (S_ret (dv 1))))))
theorem ok_Chart_shows {f : Addr} {fd : FuncData} (F : Fun K "shows" "Chart.shows" s_Chart_shows f fd) (T : Txt K w mg W) (G_check_chart : Cal P w K mg base "check_chart" 5 (spD K W (f_check_chart) 1)) (G_is_constant : Cal P w K mg base "is_constant" 6 (spD K W (f_is_constant) 1)) (G_part_cost : Cal P w K mg base "part_cost" 7 (spD K W (f_part_cost) 1)) (G_parts_from : Cal P w K mg base "parts_from" 6 (spD K W (f_parts_from) 2)) (G_unrolled : Cal P w K mg base "unrolled" 2 (spD K W (f_unrolled) 1)) : FnOk P w K mg base (L2.CX P w) 8 f fd ["self", "rows"] (spD K W (f_Chart_shows) 2) :=
  okD F sc_Chart_shows fun cdv A outer s H E hr =>
  (S_cons (S_exp (c_call G_check_chart (hr.mono (by decide)) rfl (ds_cons (dv 1) ds_nil) (al_cons al_nil)))
  (S_cons (S_if (t_w (w_or (t_not (t_tru (d_isi rfl T.b_isinstance rfl T.b_tuple (by decide +kernel) (d_fld T.cl3 T.n3_parts (dv 0))))) (w_or1 (t_not (t_tru (d_B (cr_all rfl) q_all rfl T.b_all (by decide +kernel) (ds_cons (d_comp rfl sc_Chart_shows.nd (i_of (d_fld T.cl3 T.n3_parts (dv 0))) (blkOk_by (own := [("part", 3)]) (N := N_Chart_shows) (sc := defScope s_Chart_shows) (by decide +kernel)) (fun _ _ _ _ _ => (pg_name (i := 3) sc_Chart_shows.nd rfl (Or.inl rfl))) (q_gV 3) (by decide) (fun _ _ _ _ _ => ts_nil) (fun _ _ _ _ _ => (c_call G_is_constant (hr.mono (by decide)) rfl (ds_cons (dv 3) ds_nil) (al_cons al_nil)))) ds_nil))))))) (S_one (S_ret d_bl)) S_nil)
  (S_cons (S_if (t_w (w_or (t_ne hr.units (c_call G_unrolled (hr.mono (by decide)) rfl (ds_cons (d_fld T.cl3 T.n3_parts (dv 0)) ds_nil) (al_cons al_nil)) (dv 1)) (w_or (t_ne hr.units (d_B call_len q_len rfl T.b_len (by decide +kernel) (ds_cons (d_fld T.cl3 T.n3_bounds (dv 0)) ds_nil)) (d_add (d_B call_len q_len rfl T.b_len (by decide +kernel) (ds_cons (dv 1) ds_nil)) d_int)) (w_or1 (t_gt (d_ix (d_fld T.cl3 T.n3_bounds (dv 0)) d_int) d_int))))) (S_one (S_ret d_bl)) S_nil)
  (S_cons (S_for (L2.passes_of rfl) rfl (i_rng1 rfl T.b_range (ds_cons (d_B call_len q_len rfl T.b_len (by decide +kernel) (ds_cons (dv 1) ds_nil)) ds_nil)) (pg_name (i := 2) sc_Chart_shows.nd rfl (Or.inl rfl)) (q_gV 2) (S_one (S_for (L2.passes_of rfl) rfl (i_of (c_call G_parts_from (hr.mono (by decide)) rfl (ds_cons (dv 1) (ds_cons (dv 2) ds_nil)) (al_cons (al_cons al_nil)))) (pg_tup rfl (pgs_cons (pg_name (i := 3) sc_Chart_shows.nd rfl (Or.inl rfl)) (pgs_cons (pg_name (i := 4) sc_Chart_shows.nd rfl (Or.inl rfl)) pgs_nil))) (q_gT (q_gsC (q_gV 3) (q_gsC (q_gV 4) q_gsN)) (gl_C (gl_C gl_N))) (S_one (S_if (t_gt (d_ixA hr.units (d_fld T.cl3 T.n3_bounds (dv 0)) (dv 4)) (d_add (d_ixA hr.units (d_fld T.cl3 T.n3_bounds (dv 0)) (dv 2)) (c_call G_part_cost (hr.mono (by decide)) rfl (ds_cons (dv 3) ds_nil) (al_cons al_nil)))) (S_one (S_ret d_bl)) S_nil)))))
  (S_one (S_ret (d_leA (d_B (cr_sum rfl) q_sum rfl T.b_sum (by decide +kernel) (ds_cons (d_comp rfl sc_Chart_shows.nd (i_of (d_fld T.cl3 T.n3_parts (dv 0))) (blkOk_by (own := [("part", 3)]) (N := N_Chart_shows) (sc := defScope s_Chart_shows) (by decide +kernel)) (fun _ _ _ _ _ => (pg_name (i := 3) sc_Chart_shows.nd rfl (Or.inl rfl))) (q_gV 3) (by decide) (fun _ _ _ _ _ => ts_nil) (fun _ _ _ _ _ => (c_call G_part_cost (hr.mono (by decide)) rfl (ds_cons (dv 3) ds_nil) (al_cons al_nil)))) ds_nil)) (d_ixA hr.units (d_fld T.cl3 T.n3_bounds (dv 0)) (d_B call_len q_len rfl T.b_len (by decide +kernel) (ds_cons (dv 1) ds_nil))))))))))
theorem ok__law_all_rows {f : Addr} {fd : FuncData} (F : Fun K "_law_all_rows" "_law_all_rows" s__law_all_rows f fd) (T : Txt K w mg W)  : FnOk P w K mg base (L2.CX P w) 1 f fd ["_law_parts", "_law_size"] (spD K W (f__law_all_rows) 2) :=
  okD F sc__law_all_rows fun cdv A outer s H E hr =>
  (S_cons (S_nil_ (i := 2) sc__law_all_rows.nd rfl (Or.inl rfl))
  (S_cons (S_for (L2.passes_of rfl) rfl (i_of (dv 0)) (pg_name (i := 3) sc__law_all_rows.nd rfl (Or.inl rfl)) (q_gV 3) (S_one (S_if (t_eq hr.units (d_ix (dv 3) d_int) d_str) (S_one (S_app (d_ix (dv 3) d_int) (pe_bm PySem.F.plainAttrs_list PySem.F.slot_list_append PySem.F.type_list_append mt_append (pv 2) (pa_cons (d_ix (dv 3) d_int) pa_nil)))) (S_cons (S_asg (d_add (d_ix (d_ix (dv 3) d_int) d_int) (d_mul (d_ix (d_ix (dv 3) d_int) d_int) (dv 1))) (pg_name (i := 4) sc__law_all_rows.nd rfl (Or.inl rfl)) (q_gV 4))
  (S_cons (S_if (t_lt (dv 4) d_int) (S_frz (i := 2) (S_one (S_ret (d_add (dv 2) (d_lst (ds_cons d_non ds_nil)))))) S_nil)
  (S_one (S_ext (i := 2) sc__law_all_rows.nd rfl (Or.inl rfl) (d_mulL (d_Ty (call_listA rfl) q_lstA rfl T.b_list (by decide +kernel) (ds_cons (d_ix (dv 3) d_int) ds_nil)) (dv 4)))))))))
  (S_frz (i := 2) (S_one (S_ret (dv 2))))))
theorem ok__law_makes {f : Addr} {fd : FuncData} (F : Fun K "_law_makes" "_law_makes" s__law_makes f fd) (T : Txt K w mg W)  : FnOk P w K mg base (L2.CX P w) 1 f fd ["_law_word_here", "_law_kinds_here"] (spD K W (f__law_makes) 2) :=
  okD F sc__law_makes fun cdv A outer s H E hr =>
  (S_one (S_ret (d_B (cr_sum rfl) q_sum rfl T.b_sum (by decide +kernel) (ds_cons (d_comp rfl sc__law_makes.nd (i_of (dv 0)) (blkOk_by (own := [("_law_kind", 2), ("_law_yarn", 3)]) (N := N__law_makes) (sc := defScope s__law_makes) (by decide +kernel)) (fun _ _ _ _ _ => (pg_tup rfl (pgs_cons (pg_name (i := 2) sc__law_makes.nd rfl (Or.inl rfl)) (pgs_cons (pg_name (i := 3) sc__law_makes.nd rfl (Or.inl rfl)) pgs_nil)))) (q_gT (q_gsC (q_gV 2) (q_gsC (q_gV 3) q_gsN)) (gl_C (gl_C gl_N))) (by decide) (fun _ _ _ _ _ => ts_nil) (fun _ _ _ _ _ => (d_ix (d_ixA hr.units (dv 1) (dv 2)) d_int))) ds_nil))))
theorem ok__law_takes {f : Addr} {fd : FuncData} (F : Fun K "_law_takes" "_law_takes" s__law_takes f fd) (T : Txt K w mg W)  : FnOk P w K mg base (L2.CX P w) 1 f fd ["_law_word_here", "_law_kinds_here"] (spD K W (f__law_takes) 2) :=
  okD F sc__law_takes fun cdv A outer s H E hr =>
  (S_one (S_ret (d_B (cr_sum rfl) q_sum rfl T.b_sum (by decide +kernel) (ds_cons (d_comp rfl sc__law_takes.nd (i_of (dv 0)) (blkOk_by (own := [("_law_kind", 2), ("_law_yarn", 3)]) (N := N__law_takes) (sc := defScope s__law_takes) (by decide +kernel)) (fun _ _ _ _ _ => (pg_tup rfl (pgs_cons (pg_name (i := 2) sc__law_takes.nd rfl (Or.inl rfl)) (pgs_cons (pg_name (i := 3) sc__law_takes.nd rfl (Or.inl rfl)) pgs_nil)))) (q_gT (q_gsC (q_gV 2) (q_gsC (q_gV 3) q_gsN)) (gl_C (gl_C gl_N))) (by decide) (fun _ _ _ _ _ => ts_nil) (fun _ _ _ _ _ => (d_ix (d_ixA hr.units (dv 1) (dv 2)) d_int))) ds_nil))))
theorem ok__law_blocks {f : Addr} {fd : FuncData} (F : Fun K "_law_blocks" "_law_blocks" s__law_blocks f fd) (T : Txt K w mg W) (G__law_makes : Cal P w K mg base "_law_makes" 1 (spD K W (f__law_makes) 2)) (G__law_takes : Cal P w K mg base "_law_takes" 1 (spD K W (f__law_takes) 2)) : FnOk P w K mg base (L2.CX P w) 2 f fd ["_law_chart_here", "_law_low", "_law_kinds_here"] (spD K W (f__law_blocks) 3) :=
  okD F sc__law_blocks fun cdv A outer s H E hr =>
  (S_cons (S_nil_ (i := 3) sc__law_blocks.nd rfl (Or.inl rfl))
  (S_cons (S_for (L2.passes_of rfl) rfl (i_rng2 rfl T.b_range (ds_cons d_int (ds_cons (d_add (d_sub (d_B call_len q_len rfl T.b_len (by decide +kernel) (ds_cons (dv 0) ds_nil)) (dv 1)) d_int) ds_nil))) (pg_name (i := 4) sc__law_blocks.nd rfl (Or.inl rfl)) (q_gV 4) (S_cons (S_asg (d_cut (dv 0) (o_some (dv 1)) (o_some (d_add (dv 1) (dv 4)))) (pg_name (i := 5) sc__law_blocks.nd rfl (Or.inl rfl)) (q_gV 5))
  (S_cons (S_asg (d_B (cr_all rfl) q_all rfl T.b_all (by decide +kernel) (ds_cons (d_comp rfl sc__law_blocks.nd (i_of (dv 5)) (blkOk_by (own := [("_law_row", 9)]) (N := N__law_blocks) (sc := defScope s__law_blocks) (by decide +kernel)) (fun _ _ _ _ _ => (pg_name (i := 9) sc__law_blocks.nd rfl (Or.inl rfl))) (q_gV 9) (by decide) (fun _ _ _ _ _ => ts_nil) (fun _ _ _ _ _ => (d_eq hr.units (c_call G__law_takes (hr.mono (by decide)) rfl (ds_cons (d_ix (dv 9) d_int) (ds_cons (dv 2) ds_nil)) (al_cons (al_cons al_nil))) (c_call G__law_makes (hr.mono (by decide)) rfl (ds_cons (d_ix (dv 9) d_int) (ds_cons (dv 2) ds_nil)) (al_cons (al_cons al_nil)))))) ds_nil)) (pg_name (i := 6) sc__law_blocks.nd rfl (Or.inl rfl)) (q_gV 6))
  (S_cons (S_asg (d_B (cr_sum rfl) q_sum rfl T.b_sum (by decide +kernel) (ds_cons (d_comp rfl sc__law_blocks.nd (i_of (dv 5)) (blkOk_by (own := [("_law_row", 9)]) (N := N__law_blocks) (sc := defScope s__law_blocks) (by decide +kernel)) (fun _ _ _ _ _ => (pg_name (i := 9) sc__law_blocks.nd rfl (Or.inl rfl))) (q_gV 9) (by decide) (fun _ _ _ _ _ => ts_nil) (fun _ _ _ _ _ => (d_sub (c_call G__law_makes (hr.mono (by decide)) rfl (ds_cons (d_add (d_ix (dv 9) d_int) (d_ix (dv 9) d_int)) (ds_cons (dv 2) ds_nil)) (al_cons (al_cons al_nil))) (c_call G__law_takes (hr.mono (by decide)) rfl (ds_cons (d_add (d_ix (dv 9) d_int) (d_ix (dv 9) d_int)) (ds_cons (dv 2) ds_nil)) (al_cons (al_cons al_nil)))))) ds_nil)) (pg_name (i := 7) sc__law_blocks.nd rfl (Or.inl rfl)) (q_gV 7))
  (S_one (S_for (L2.passes_of rfl) rfl (i_rng2 rfl T.b_range (ds_cons d_int (ds_cons (d_add (d_B call_len q_len rfl T.b_len (by decide +kernel) (ds_cons (dv 0) ds_nil)) d_int) ds_nil))) (pg_name (i := 8) sc__law_blocks.nd rfl (Or.inl rfl)) (q_gV 8) (S_one (S_if (t_w (w_and (t_tru (dv 6)) (w_and (t_leA (d_B call_abs q_abs rfl T.b_abs (by decide +kernel) (ds_cons (dv 7) ds_nil)) d_int) (w_and1 (t_eq hr.units (d_mulL (dv 5) (dv 8)) (d_cut (dv 0) (o_some (dv 1)) (o_some (d_add (dv 1) (d_mul (dv 4) (dv 8)))))))))) (S_one (S_app (d_tup (ds_cons (dv 5) (ds_cons (dv 8) ds_nil))) (pe_bm PySem.F.plainAttrs_list PySem.F.slot_list_append PySem.F.type_list_append mt_append (pv 3) (pa_cons (d_tup (ds_cons (dv 5) (ds_cons (dv 8) ds_nil))) pa_nil)))) S_nil))))))))
  (S_frz (i := 3) (S_one (S_ret (dv 3))))))
theorem ok__law_table_cost {f : Addr} {fd : FuncData} (F : Fun K "_law_table_cost" "_law_table_cost" s__law_table_cost f fd) (T : Txt K w mg W)  : FnOk P w K mg base (L2.CX P w) 1 f fd ["_law_word_here"] (spD K W (f__law_table_cost) 1) :=
  okD F sc__law_table_cost fun cdv A outer s H E hr =>
  (S_cons (S_dit_ (i := 1) sc__law_table_cost.nd rfl (Or.inr rfl))
  (S_cons (S_for (L2.passes_of rfl) rfl (i_rng2 rfl T.b_range (ds_cons d_int (ds_cons (d_add (d_B call_len q_len rfl T.b_len (by decide +kernel) (ds_cons (dv 0) ds_nil)) d_int) ds_nil))) (pg_name (i := 2) sc__law_table_cost.nd rfl (Or.inl rfl)) (q_gV 2) (S_one (S_for (L2.passes_of rfl) rfl (i_rng1 rfl T.b_range (ds_cons (d_add (d_sub (d_B call_len q_len rfl T.b_len (by decide +kernel) (ds_cons (dv 0) ds_nil)) (dv 2)) d_int) ds_nil)) (pg_name (i := 3) sc__law_table_cost.nd rfl (Or.inr rfl)) (q_gV 3) (S_cons (S_asg (d_add (dv 3) (dv 2)) (pg_name (i := 4) sc__law_table_cost.nd rfl (Or.inr rfl)) (q_gV 4))
  (S_cons (S_ownN (i := 5) sc__law_table_cost.nd rfl (Or.inl rfl) (n_add (d_lend (i := 1) (d_comp rfl sc__law_table_cost.nd (i_rng2 rfl T.b_range (ds_cons (d_add (dv 3) d_int) (ds_cons (dv 4) ds_nil))) (blkOk_by (own := [("_law_cut", 7)]) (N := N__law_table_cost) (sc := defScope s__law_table_cost) (by decide +kernel)) (fun _ _ _ _ _ => (pg_name (i := 7) sc__law_table_cost.nd rfl (Or.inl rfl))) (q_gV 7) (by decide) (fun _ _ _ _ _ => ts_nil) (fun _ _ _ _ _ => (d_add (d_ixT2 hr.units (dv 1) (ds_cons (dv 3) (ds_cons (dv 7) ds_nil))) (d_ixT2 hr.units (dv 1) (ds_cons (dv 7) (ds_cons (dv 4) ds_nil))))))) (d_if (t_eq hr.units (dv 2) d_int) (d_lst (ds_cons d_int ds_nil)) (d_lst ds_nil))))
  (S_cons (S_for (L2.passes_of rfl) rfl (i_rng2 rfl T.b_range (ds_cons d_int (ds_cons (dv 2) ds_nil))) (pg_name (i := 6) sc__law_table_cost.nd rfl (Or.inl rfl)) (q_gV 6) (S_one (S_if (t_w (w_and (t_eq hr.units (d_mod (d_Ty call_intA q_intA rfl T.b_int (by decide +kernel) (ds_cons (dv 2) ds_nil)) (dv 6)) d_int) (w_and1 (t_eq hr.units (d_mul (d_cut (dv 0) (o_some (dv 3)) (o_some (d_add (dv 3) (dv 6)))) (d_div (dv 2) (dv 6))) (d_cut (dv 0) (o_some (dv 3)) (o_some (dv 4))))))) (S_one (S_app (d_lend (i := 1) (d_add (d_ixT2 hr.units (dv 1) (ds_cons (dv 3) (ds_cons (d_add (dv 3) (dv 6)) ds_nil))) (d_if (t_eq hr.units (dv 6) d_int) d_int d_int))) (pe_bm PySem.F.plainAttrs_list PySem.F.slot_list_append PySem.F.type_list_append mt_append (pv 5) (pa_cons (d_lend (i := 1) (d_add (d_ixT2 hr.units (dv 1) (ds_cons (dv 3) (ds_cons (d_add (dv 3) (dv 6)) ds_nil))) (d_if (t_eq hr.units (dv 6) d_int) d_int d_int))) pa_nil)))) S_nil)))
  (S_frz (i := 5) (S_one (S_dputT (i := 1) hr.units (pv 1) (ds_cons (dv 3) (ds_cons (dv 4) ds_nil)) (d_B (cr_min rfl) q_minL rfl T.b_min (by decide +kernel) (ds_cons (dv 5) ds_nil)))))))))))
  (S_frz (i := 1) (S_one (S_ret (d_if (t_eq hr.units (dv 0) (d_tup ds_nil)) d_int (d_ixT2 hr.units (dv 1) (ds_cons d_int (ds_cons (d_B call_len q_len rfl T.b_len (by decide +kernel) (ds_cons (dv 0) ds_nil)) ds_nil)))))))))
theorem ok__law_cost {f : Addr} {fd : FuncData} (F : Fun K "_law_cost" "_law_cost" s__law_cost f fd) (T : Txt K w mg W) (G__law_table_cost : Cal P w K mg base "_law_table_cost" 1 (spD K W (f__law_table_cost) 1)) : FnOk P w K mg base (L2.CX P w) 2 f fd ["_law_row"] (spD K W (f__law_cost) 1) :=
  okD F sc__law_cost fun cdv A outer s H E hr =>
  (S_one (S_ret (d_add (d_B (cr_sum rfl) q_sum rfl T.b_sum (by decide +kernel) (ds_cons (d_comp rfl sc__law_cost.nd (i_of (dv 0)) (blkOk_by (own := [("_law_word_here", 1)]) (N := N__law_cost) (sc := defScope s__law_cost) (by decide +kernel)) (fun _ _ _ _ _ => (pg_name (i := 1) sc__law_cost.nd rfl (Or.inl rfl))) (q_gV 1) (by decide) (fun _ _ _ _ _ => ts_nil) (fun _ _ _ _ _ => (c_call G__law_table_cost (hr.mono (by decide)) rfl (ds_cons (dv 1) ds_nil) (al_cons al_nil)))) ds_nil)) (d_if (t_eq hr.units (d_ix (dv 0) d_int) (d_tup ds_nil)) d_int d_int))))
theorem ok__law_best {f : Addr} {fd : FuncData} (F : Fun K "_law_best" "_law_best" s__law_best f fd) (T : Txt K w mg W) (G__law_blocks : Cal P w K mg base "_law_blocks" 2 (spD K W (f__law_blocks) 3)) (G__law_cost : Cal P w K mg base "_law_cost" 2 (spD K W (f__law_cost) 1)) : FnOk P w K mg base (L2.CX P w) 3 f fd ["_law_chart_here", "_law_kinds_here"] (spD K W (f__law_best) 2) :=
  okD F sc__law_best fun cdv A outer s H E hr =>
  (S_cons (S_ownN (i := 2) sc__law_best.nd rfl (Or.inl rfl) (n_add (d_lst (ds_cons d_int ds_nil)) (d_mulL (d_lst (ds_cons (d_pow d_int d_int) ds_nil)) (d_B call_len q_len rfl T.b_len (by decide +kernel) (ds_cons (dv 0) ds_nil)))))
  (S_cons (S_for (L2.passes_of rfl) rfl (i_rng1 rfl T.b_range (ds_cons (d_B call_len q_len rfl T.b_len (by decide +kernel) (ds_cons (dv 0) ds_nil)) ds_nil)) (pg_name (i := 3) sc__law_best.nd rfl (Or.inl rfl)) (q_gV 3) (S_cons (S_putL (i := 2) (pv 2) (d_add (dv 3) d_int) (d_B (call_min2 rfl) q_min2 rfl T.b_min (by decide +kernel) (ds_cons (d_ownIx (pv 2) (d_add (dv 3) d_int)) (ds_cons (d_add (d_add (d_ownIx (pv 2) (dv 3)) d_int) (c_call G__law_cost (hr.mono (by decide)) rfl (ds_cons (d_ixA hr.units (dv 0) (dv 3)) ds_nil) (al_cons al_nil))) ds_nil))))
  (S_one (S_for (L2.passes_of rfl) rfl (i_of (c_call G__law_blocks (hr.mono (by decide)) rfl (ds_cons (dv 0) (ds_cons (dv 3) (ds_cons (dv 1) ds_nil))) (al_cons (al_cons (al_cons al_nil))))) (pg_tup rfl (pgs_cons (pg_name (i := 4) sc__law_best.nd rfl (Or.inl rfl)) (pgs_cons (pg_name (i := 5) sc__law_best.nd rfl (Or.inl rfl)) pgs_nil))) (q_gT (q_gsC (q_gV 4) (q_gsC (q_gV 5) q_gsN)) (gl_C (gl_C gl_N))) (S_cons (S_asg (d_add (dv 3) (d_mul (d_B call_len q_len rfl T.b_len (by decide +kernel) (ds_cons (dv 4) ds_nil)) (dv 5))) (pg_name (i := 6) sc__law_best.nd rfl (Or.inl rfl)) (q_gV 6))
  (S_one (S_putL (i := 2) (pv 2) (dv 6) (d_B (call_min2 rfl) q_min2 rfl T.b_min (by decide +kernel) (ds_cons (d_ownIx (pv 2) (dv 6)) (ds_cons (d_add (d_add (d_ownIx (pv 2) (dv 3)) d_int) (d_B (cr_sum rfl) q_sum rfl T.b_sum (by decide +kernel) (ds_cons (d_comp rfl sc__law_best.nd (i_of (dv 4)) (blkOk_by (own := [("_law_row", 7)]) (N := N__law_best) (sc := defScope s__law_best) (by decide +kernel)) (fun _ _ _ _ _ => (pg_name (i := 7) sc__law_best.nd rfl (Or.inl rfl))) (q_gV 7) (by decide) (fun _ _ _ _ _ => ts_nil) (fun _ _ _ _ _ => (c_call G__law_cost (hr.mono (by decide)) rfl (ds_cons (dv 7) ds_nil) (al_cons al_nil)))) ds_nil))) ds_nil))))))))))
  (S_frz (i := 2) (S_one (S_ret (dv 2))))))
theorem ok__law_number {f : Addr} {fd : FuncData} (F : Fun K "_law_number" "_law_number" s__law_number f fd) (T : Txt K w mg W)  : FnOk P w K mg base (L2.CX P w) 1 f fd ["_law_script", "_law_index"] (spD K W (f__law_number W) 2) :=
  okD F sc__law_number fun cdv A outer s H E hr =>
  (S_cons (S_if (t_scrNil hr.units (dv 0) (d_lst ds_nil)) (S_one (S_ret (d_Ty call_int1 q_int rfl T.b_int (by decide +kernel) (ds_cons (d_mod (d_add (d_mul (dv 1) d_int) d_int) d_int) ds_nil)))) S_nil)
  (S_cons (S_asg (d_ixS (dv 0) (d_mod (dv 1) (d_B call_len q_lenS rfl T.b_len (by decide +kernel) (ds_cons (dv 0) ds_nil)))) (pg_name (i := 2) sc__law_number.nd rfl (Or.inl rfl)) (q_gV 2))
  (S_cons (S_if (t_ge (d_B call_abs q_abs rfl T.b_abs (by decide +kernel) (ds_cons (dv 2) ds_nil)) (d_pow d_int d_int)) (S_one (S_asg (d_mod (dv 2) (d_pow d_int d_int)) (pg_name (i := 2) sc__law_number.nd rfl (Or.inl rfl)) (q_gV 2))) S_nil)
  (S_cons (S_asg (d_mod (d_add (d_mul (d_add (dv 2) (d_mul d_int (dv 1))) d_int) (d_mul d_int (d_B call_len q_lenS rfl T.b_len (by decide +kernel) (ds_cons (dv 0) ds_nil)))) d_int) (pg_name (i := 3) sc__law_number.nd rfl (Or.inl rfl)) (q_gV 3))
  (S_one (S_ret (d_Ty call_int1 q_int rfl T.b_int (by decide +kernel) (ds_cons (d_mod (d_add (d_mul (d_mod (d_mul (dv 3) d_int) d_int) d_int) (dv 1)) d_int) ds_nil))))))))
theorem ok__law_take {f : Addr} {fd : FuncData} (F : Fun K "_law_take" "_law_take" s__law_take f fd) (T : Txt K w mg W) (G__law_number : Cal P w K mg base "_law_number" 1 (spD K W (f__law_number W) 2)) : FnOk P w K mg base (L2.CX P w) 2 f fd ["_law_draw", "_law_many"] (spD K W (f__law_take W) 2) :=
  okD F sc__law_take fun cdv A outer s H E hr =>
  (S_cons (S_drw (dv 0))
  (S_one (S_ret (d_mod (d_Ty call_int1 q_int rfl T.b_int (by decide +kernel) (ds_cons (c_call G__law_number (hr.mono (by decide)) rfl (ds_cons (d_drw0 (dv 0)) (ds_cons (d_Ty call_int1 q_int rfl T.b_int (by decide +kernel) (ds_cons (d_drw1 (dv 0)) ds_nil)) ds_nil)) (al_cons (al_cons al_nil))) ds_nil)) (dv 1)))))
theorem ok__law_pick {f : Addr} {fd : FuncData} (F : Fun K "_law_pick" "_law_pick" s__law_pick f fd) (T : Txt K w mg W) (G__law_take : Cal P w K mg base "_law_take" 2 (spD K W (f__law_take W) 2)) : FnOk P w K mg base (L2.CX P w) 3 f fd ["_law_draw", "_law_items"] (spD K W (f__law_pick W) 2) :=
  okD F sc__law_pick fun cdv A outer s H E hr =>
  (S_one (S_ret (d_ixA hr.units (dv 1) (c_call G__law_take (hr.mono (by decide)) rfl (ds_cons (dv 0) (ds_cons (d_B call_len q_len rfl T.b_len (by decide +kernel) (ds_cons (dv 1) ds_nil)) ds_nil)) (al_cons (al_cons al_nil))))))
theorem ok__law_group {f : Addr} {fd : FuncData} (F : Fun K "_law_group" "_law_group" s__law_group f fd) (T : Txt K w mg W) (G__law_pick : Cal P w K mg base "_law_pick" 3 (spD K W (f__law_pick W) 2)) : FnOk P w K mg base (L2.CX P w) 4 f fd ["_law_draw", "_law_even", "_law_yarns"] (spD K W (f__law_group W) 3) :=
  okD F sc__law_group fun cdv A outer s H E hr =>
  (S_cons (S_ownN (i := 3) sc__law_group.nd rfl (Or.inl rfl) (n_lst (ds_cons (d_tup (ds_cons d_str ds_nil)) (ds_cons (d_tup (ds_cons d_str (ds_cons d_str ds_nil))) (ds_cons (d_tup (ds_cons d_str (ds_cons d_str ds_nil))) (ds_cons (d_tup (ds_cons d_str (ds_cons d_str ds_nil))) (ds_cons (d_tup (ds_cons d_str (ds_cons d_str (ds_cons d_str ds_nil)))) (ds_cons (d_tup (ds_cons d_str (ds_cons d_str ds_nil))) (ds_cons (d_tup (ds_cons d_str ds_nil)) (ds_cons (d_tup (ds_cons d_str (ds_cons d_str ds_nil))) ds_nil))))))))))
  (S_cons (S_if (t_not (t_tru (dv 1))) (S_one (S_ext (i := 3) sc__law_group.nd rfl (Or.inl rfl) (d_lst (ds_cons (d_tup (ds_cons d_str ds_nil)) (ds_cons (d_tup (ds_cons d_str ds_nil)) (ds_cons (d_tup (ds_cons d_str (ds_cons d_str ds_nil))) (ds_cons (d_tup (ds_cons d_str ds_nil)) (ds_cons (d_tup (ds_cons d_str (ds_cons d_str ds_nil))) ds_nil)))))))) S_nil)
  (S_frz (i := 3) (S_one (S_ret (d_Ty call_tuple_of q_tupOf rfl T.b_tuple (by decide +kernel) (ds_cons (d_comp rfl sc__law_group.nd (i_of (c_call G__law_pick (hr.mono (by decide)) rfl (ds_cons (dv 0) (ds_cons (dv 3) ds_nil)) (al_cons (al_cons al_nil)))) (blkOk_by (own := [("_law_kind", 4)]) (N := N__law_group) (sc := defScope s__law_group) (by decide +kernel)) (fun _ _ _ _ _ => (pg_name (i := 4) sc__law_group.nd rfl (Or.inl rfl))) (q_gV 4) (by decide) (fun _ _ _ _ _ => ts_nil) (fun _ _ _ _ _ => (d_tup (ds_cons (dv 4) (ds_cons (c_call G__law_pick (hr.mono (by decide)) rfl (ds_cons (dv 0) (ds_cons (dv 2) ds_nil)) (al_cons (al_cons al_nil))) ds_nil))))) ds_nil)))))))
theorem ok__law_cell {f : Addr} {fd : FuncData} (F : Fun K "_law_cell" "_law_cell" s__law_cell f fd) (T : Txt K w mg W) (G__law_pick : Cal P w K mg base "_law_pick" 3 (spD K W (f__law_pick W) 2)) : FnOk P w K mg base (L2.CX P w) 4 f fd ["_law_draw", "_law_yarns"] (spD K W (f__law_cell W) 2) :=
  okD F sc__law_cell fun cdv A outer s H E hr =>
  (S_cons (S_asg (d_lst (ds_cons d_str (ds_cons d_str (ds_cons d_str (ds_cons d_str (ds_cons d_str (ds_cons d_str (ds_cons d_str (ds_cons d_str (ds_cons d_str (ds_cons d_str (ds_cons d_str (ds_cons d_str (ds_cons d_str (ds_cons d_str ds_nil))))))))))))))) (pg_name (i := 2) sc__law_cell.nd rfl (Or.inl rfl)) (q_gV 2))
  (S_one (S_ret (d_tup (ds_cons (c_call G__law_pick (hr.mono (by decide)) rfl (ds_cons (dv 0) (ds_cons (dv 2) ds_nil)) (al_cons (al_cons al_nil))) (ds_cons (c_call G__law_pick (hr.mono (by decide)) rfl (ds_cons (dv 0) (ds_cons (dv 1) ds_nil)) (al_cons (al_cons al_nil))) ds_nil))))))
theorem ok__law_word {f : Addr} {fd : FuncData} (F : Fun K "_law_word" "_law_word" s__law_word f fd) (T : Txt K w mg W) (G__law_cell : Cal P w K mg base "_law_cell" 4 (spD K W (f__law_cell W) 2)) (G__law_take : Cal P w K mg base "_law_take" 2 (spD K W (f__law_take W) 2)) : FnOk P w K mg base (L2.CX P w) 5 f fd ["_law_draw", "_law_many", "_law_yarns"] (spD K W (f__law_word W) 3) :=
  okD F sc__law_word fun cdv A outer s H E hr =>
  (S_one (S_ret (d_Ty call_tuple_of q_tupOf rfl T.b_tuple (by decide +kernel) (ds_cons (d_comp rfl sc__law_word.nd (i_rng1 rfl T.b_range (ds_cons (c_call G__law_take (hr.mono (by decide)) rfl (ds_cons (dv 0) (ds_cons (d_add (dv 1) d_int) ds_nil)) (al_cons (al_cons al_nil))) ds_nil)) (blkOk_by (own := [("_law_at", 3)]) (N := N__law_word) (sc := defScope s__law_word) (by decide +kernel)) (fun _ _ _ _ _ => (pg_name (i := 3) sc__law_word.nd rfl (Or.inl rfl))) (q_gV 3) (by decide) (fun _ _ _ _ _ => ts_nil) (fun _ _ _ _ _ => (c_call G__law_cell (hr.mono (by decide)) rfl (ds_cons (dv 0) (ds_cons (dv 2) ds_nil)) (al_cons (al_cons al_nil))))) ds_nil))))
theorem ok__law_chart {f : Addr} {fd : FuncData} (F : Fun K "_law_chart" "_law_chart" s__law_chart f fd) (T : Txt K w mg W) (G__law_group : Cal P w K mg base "_law_group" 4 (spD K W (f__law_group W) 3)) (G__law_pick : Cal P w K mg base "_law_pick" 3 (spD K W (f__law_pick W) 2)) (G__law_take : Cal P w K mg base "_law_take" 2 (spD K W (f__law_take W) 2)) (G__law_word : Cal P w K mg base "_law_word" 5 (spD K W (f__law_word W) 3)) : FnOk P w K mg base (L2.CX P w) 6 f fd ["_law_draw"] (spD K W (f__law_chart W) 1) :=
  okD F sc__law_chart fun cdv A outer s H E hr =>
  (S_cons (S_ownN (i := 1) sc__law_chart.nd rfl (Or.inr rfl) (n_comp rfl sc__law_chart.nd (i_rng1 rfl T.b_range (ds_cons d_int ds_nil)) (blkOk_by (own := [("_law_turn", 3)]) (N := N__law_chart) (sc := defScope s__law_chart) (by decide +kernel)) (fun _ _ _ _ _ => (pg_name (i := 3) sc__law_chart.nd rfl (Or.inl rfl))) (q_gV 3) (by decide) (fun _ _ _ _ _ => ts_nil) (fun _ _ _ _ _ => (d_tup (ds_cons (c_call G__law_word (hr.mono (by decide)) rfl (ds_cons (dv 0) (ds_cons d_int (ds_cons (d_lst (ds_cons d_str ds_nil)) ds_nil))) (al_cons (al_cons (al_cons al_nil)))) (ds_cons (c_call G__law_group (hr.mono (by decide)) rfl (ds_cons (dv 0) (ds_cons d_bl (ds_cons (d_lst (ds_cons d_str ds_nil)) ds_nil))) (al_cons (al_cons (al_cons al_nil)))) (ds_cons (c_call G__law_word (hr.mono (by decide)) rfl (ds_cons (dv 0) (ds_cons d_int (ds_cons (d_lst (ds_cons d_str ds_nil)) ds_nil))) (al_cons (al_cons (al_cons al_nil)))) ds_nil)))))))
  (S_cons (S_app (d_tup (ds_cons (c_call G__law_word (hr.mono (by decide)) rfl (ds_cons (dv 0) (ds_cons d_int (ds_cons (d_lst (ds_cons d_str (ds_cons d_str ds_nil))) ds_nil))) (al_cons (al_cons (al_cons al_nil)))) (ds_cons (d_tup ds_nil) (ds_cons (d_tup ds_nil) ds_nil)))) (pe_bm PySem.F.plainAttrs_list PySem.F.slot_list_append PySem.F.type_list_append mt_append (pv 1) (pa_cons (d_tup (ds_cons (c_call G__law_word (hr.mono (by decide)) rfl (ds_cons (dv 0) (ds_cons d_int (ds_cons (d_lst (ds_cons d_str (ds_cons d_str ds_nil))) ds_nil))) (al_cons (al_cons (al_cons al_nil)))) (ds_cons (d_tup ds_nil) (ds_cons (d_tup ds_nil) ds_nil)))) pa_nil)))
  (S_cons (S_app (d_tup (ds_cons (d_tup ds_nil) (ds_cons (d_tup (ds_cons (d_tup (ds_cons d_str (ds_cons d_str ds_nil))) ds_nil)) (ds_cons (d_tup ds_nil) ds_nil)))) (pe_bm PySem.F.plainAttrs_list PySem.F.slot_list_append PySem.F.type_list_append mt_append (pv 1) (pa_cons (d_tup (ds_cons (d_tup ds_nil) (ds_cons (d_tup (ds_cons (d_tup (ds_cons d_str (ds_cons d_str ds_nil))) ds_nil)) (ds_cons (d_tup ds_nil) ds_nil)))) pa_nil)))
  (S_frz (i := 1) (S_cons (S_asg (d_lst ds_nil) (pg_name (i := 2) sc__law_chart.nd rfl (Or.inl rfl)) (q_gV 2))
  (S_cons (S_for (L2.passes_of rfl) rfl (i_rng1 rfl T.b_range (ds_cons (d_add d_int (c_call G__law_take (hr.mono (by decide)) rfl (ds_cons (dv 0) (ds_cons d_int ds_nil)) (al_cons (al_cons al_nil)))) ds_nil)) (pg_name (i := 3) sc__law_chart.nd rfl (Or.inl rfl)) (q_gV 3) (S_cons (S_setComp (i := 4) rfl sc__law_chart.nd rfl rfl (sw_true rfl rfl rfl (by decide +kernel)) (i_rng1 rfl T.b_range (ds_cons (d_add d_int (c_call G__law_take (hr.mono (by decide)) rfl (ds_cons (dv 0) (ds_cons d_int ds_nil)) (al_cons (al_cons al_nil)))) ds_nil)) (blkOk_by (own := [("_law_at", 5)]) (N := N__law_chart) (sc := defScope s__law_chart) (by decide +kernel)) (fun _ _ _ _ _ => (pg_name (i := 5) sc__law_chart.nd rfl (Or.inl rfl))) (q_gV 5) (by decide) (fun _ _ _ _ _ => ts_nil) (fun _ _ _ _ _ => (c_call G__law_pick (hr.mono (by decide)) rfl (ds_cons (dv 0) (ds_cons (dv 1) ds_nil)) (al_cons (al_cons al_nil)))))
  (S_one (S_asg (d_add (dv 2) (d_mulL (dv 4) (d_add d_int (c_call G__law_take (hr.mono (by decide)) rfl (ds_cons (dv 0) (ds_cons d_int ds_nil)) (al_cons (al_cons al_nil)))))) (pg_name (i := 2) sc__law_chart.nd rfl (Or.inl rfl)) (q_gV 2)))))
  (S_one (S_ret (d_cut (dv 2) o_none (o_some d_int))))))))))
theorem ok__law_kinds {f : Addr} {fd : FuncData} (F : Fun K "_law_kinds" "_law_kinds" s__law_kinds f fd) (T : Txt K w mg W)  : FnOk P w K mg base (L2.CX P w) 1 f fd [] (spD K W (f__law_kinds) 0) :=
  okD F sc__law_kinds fun cdv A outer s H E hr =>
  (S_cons (S_dic_ (i := 0) sc__law_kinds.nd rfl (Or.inl rfl))
  (S_cons (S_asg d_str (pg_name (i := 1) sc__law_kinds.nd rfl (Or.inl rfl)) (q_gV 1))
  (S_cons (S_for (L2.passes_of rfl) rfl (i_of (d_split (dv 1) d_str)) (pg_name (i := 2) sc__law_kinds.nd rfl (Or.inl rfl)) (q_gV 2) (S_cons (S_asg (d_split (dv 2) d_str) (pg_name (i := 3) sc__law_kinds.nd rfl (Or.inl rfl)) (q_gV 3))
  (S_one (S_dput (i := 0) hr.units (pv 0) (d_ix (dv 3) d_int) (d_tup (ds_cons (d_Ty call_intA q_intA rfl T.b_int (by decide +kernel) (ds_cons (d_ix (dv 3) d_int) ds_nil)) (ds_cons (d_Ty call_intA q_intA rfl T.b_int (by decide +kernel) (ds_cons (d_ix (dv 3) d_int) ds_nil)) (ds_cons (d_ix (dv 3) d_int) (ds_cons (d_ix (dv 3) d_int) ds_nil)))))))))
  (S_frz (i := 0) (S_one (S_ret (dv 0)))))))
theorem ok__law_price {f : Addr} {fd : FuncData} (F : Fun K "_law_price" "_law_price" s__law_price f fd) (T : Txt K w mg W) (G__law_cost : Cal P w K mg base "_law_cost" 2 (spD K W (f__law_cost) 1)) : FnOk P w K mg base (L2.CX P w) 3 f fd ["_law_parts"] (spD K W (f__law_price) 1) :=
  okD F sc__law_price fun cdv A outer s H E hr =>
  (S_cons (S_setComp (i := 1) rfl sc__law_price.nd rfl rfl (sw_true rfl rfl rfl (by decide +kernel)) (i_of (dv 0)) (blkOk_by (own := [("_law_part", 2)]) (N := N__law_price) (sc := defScope s__law_price) (by decide +kernel)) (fun _ _ _ _ _ => (pg_name (i := 2) sc__law_price.nd rfl (Or.inl rfl))) (q_gV 2) (by decide) (fun _ _ _ _ _ => ts_nil) (fun _ _ _ _ _ => (d_if (t_eq hr.units (d_ix (dv 2) d_int) d_str) (d_cut (dv 2) (o_some d_int) o_none) (d_ix (dv 2) d_int))))
  (S_one (S_ret (d_add (d_B (cr_sum rfl) q_sum rfl T.b_sum (by decide +kernel) (ds_cons (d_comp rfl sc__law_price.nd (i_of (dv 1)) (blkOk_by (own := [("_law_one", 3)]) (N := N__law_price) (sc := defScope s__law_price) (by decide +kernel)) (fun _ _ _ _ _ => (pg_name (i := 3) sc__law_price.nd rfl (Or.inl rfl))) (q_gV 3) (by decide) (fun _ _ _ _ _ => ts_nil) (fun _ _ _ _ _ => (d_B (cr_sum rfl) q_sum rfl T.b_sum (by decide +kernel) (ds_cons (d_comp rfl sc__law_price.nd (i_of (dv 3)) (own := [("_law_row", 4)]) (by show BlkOk N__law_price (L2.relS _ (defScope s__law_price)) _ _; exact blkOk_by (by decide +kernel)) (fun _ _ _ _ _ => (pg_name (i := 4) sc__law_price.nd rfl (Or.inl rfl))) (q_gV 4) (by decide) (fun _ _ _ _ _ => ts_nil) (fun _ _ _ _ _ => (c_call G__law_cost (hr.mono (by decide)) rfl (ds_cons (dv 4) ds_nil) (al_cons al_nil)))) ds_nil)))) ds_nil)) (d_B (cr_sum rfl) q_sum rfl T.b_sum (by decide +kernel) (ds_cons (d_comp rfl sc__law_price.nd (i_of (dv 0)) (blkOk_by (own := [("_law_part", 2)]) (N := N__law_price) (sc := defScope s__law_price) (by decide +kernel)) (fun _ _ _ _ _ => (pg_name (i := 2) sc__law_price.nd rfl (Or.inl rfl))) (q_gV 2) (by decide) (fun _ _ _ _ _ => ts_nil) (fun _ _ _ _ _ => (d_if (t_eq hr.units (d_ix (dv 2) d_int) d_str) d_int d_int))) ds_nil))))))
theorem ok_cheapest_parts {f : Addr} {fd : FuncData} (F : Fun K "cheapest_parts" "cheapest_parts" s_cheapest_parts f fd) (T : Txt K w mg W) (G_check_chart : Cal P w K mg base "check_chart" 5 (spD K W (f_check_chart) 1)) (G_part_cost : Cal P w K mg base "part_cost" 7 (spD K W (f_part_cost) 1)) (G_parts_from : Cal P w K mg base "parts_from" 6 (spD K W (f_parts_from) 2)) (G_Chart___init__ : CalI P w K mg base (W.cl 3) "Chart" 1 (spI K W (f_Chart___init__) 3 2)) : FnOk P w K mg base (L2.CX P w) 8 f fd ["rows"] (spD K W (f_cheapest_parts) 1) :=
  okD F sc_cheapest_parts fun cdv A outer s H E hr =>
  (S_cons (S_exp (c_call G_check_chart (hr.mono (by decide)) rfl (ds_cons (dv 0) ds_nil) (al_cons al_nil)))
  (S_cons (S_ownN (i := 1) sc_cheapest_parts.nd rfl (Or.inl rfl) (n_add (d_lst (ds_cons (d_tup (ds_cons d_int (ds_cons (d_tup ds_nil) ds_nil))) ds_nil)) (d_comp rfl sc_cheapest_parts.nd (i_of (dv 0)) (blkOk_by (own := [("row", 6)]) (N := N_cheapest_parts) (sc := defScope s_cheapest_parts) (by decide +kernel)) (fun _ _ _ _ _ => (pg_name (i := 6) sc_cheapest_parts.nd rfl (Or.inl rfl))) (q_gV 6) (by decide) (fun _ _ _ _ _ => ts_nil) (fun _ _ _ _ _ => d_non))))
  (S_cons (S_for (L2.passes_of rfl) rfl (i_rng1 rfl T.b_range (ds_cons (d_B call_len q_len rfl T.b_len (by decide +kernel) (ds_cons (dv 0) ds_nil)) ds_nil)) (pg_name (i := 2) sc_cheapest_parts.nd rfl (Or.inl rfl)) (q_gV 2) (S_one (S_for (L2.passes_of rfl) rfl (i_of (c_call G_parts_from (hr.mono (by decide)) rfl (ds_cons (dv 0) (ds_cons (dv 2) ds_nil)) (al_cons (al_cons al_nil)))) (pg_tup rfl (pgs_cons (pg_name (i := 3) sc_cheapest_parts.nd rfl (Or.inl rfl)) (pgs_cons (pg_name (i := 4) sc_cheapest_parts.nd rfl (Or.inl rfl)) pgs_nil))) (q_gT (q_gsC (q_gV 3) (q_gsC (q_gV 4) q_gsN)) (gl_C (gl_C gl_N))) (S_cons (S_asg (d_add (d_ix (d_ownIx (pv 1) (dv 2)) d_int) (c_call G_part_cost (hr.mono (by decide)) rfl (ds_cons (dv 3) ds_nil) (al_cons al_nil))) (pg_name (i := 5) sc_cheapest_parts.nd rfl (Or.inl rfl)) (q_gV 5))
  (S_one (S_if (t_w (w_or (t_isN (d_ownIx (pv 1) (dv 4))) (w_or1 (t_lt (dv 5) (d_ix (d_ownIx (pv 1) (dv 4)) d_int))))) (S_one (S_putL (i := 1) (pv 1) (dv 4) (d_tup (ds_cons (dv 5) (ds_cons (d_add (d_ix (d_ownIx (pv 1) (dv 2)) d_int) (d_tup (ds_cons (dv 3) ds_nil))) ds_nil))))) S_nil))))))
  (S_frz (i := 1) (S_one (S_ret (c_make G_Chart___init__ (hr.mono (by decide)) rfl (ds_cons (d_ix (d_ixA hr.units (dv 1) (d_B call_len q_len rfl T.b_len (by decide +kernel) (ds_cons (dv 0) ds_nil))) d_int) (ds_cons (d_comp rfl sc_cheapest_parts.nd (i_of (dv 1)) (blkOk_by (own := [("price", 5), ("parts", 7)]) (N := N_cheapest_parts) (sc := defScope s_cheapest_parts) (by decide +kernel)) (fun _ _ _ _ _ => (pg_tup rfl (pgs_cons (pg_name (i := 5) sc_cheapest_parts.nd rfl (Or.inl rfl)) (pgs_cons (pg_name (i := 7) sc_cheapest_parts.nd rfl (Or.inl rfl)) pgs_nil)))) (q_gT (q_gsC (q_gV 5) (q_gsC (q_gV 7) q_gsN)) (gl_C (gl_C gl_N))) (by decide) (fun _ _ _ _ _ => ts_nil) (fun _ _ _ _ _ => (dv 5))) ds_nil)) (al_cons (al_cons al_nil)))))))))
theorem body_law {f : Addr} {fd : FuncData} (F : Fun K "law" "law" s_law f fd) (T : Txt K w mg W) (G__law_all_rows : Cal P w K mg base "_law_all_rows" 1 (spD K W (f__law_all_rows) 2)) (G__law_best : Cal P w K mg base "_law_best" 3 (spD K W (f__law_best) 2)) (G__law_chart : Cal P w K mg base "_law_chart" 6 (spD K W (f__law_chart W) 1)) (G__law_kinds : Cal P w K mg base "_law_kinds" 1 (spD K W (f__law_kinds) 0)) (G__law_price : Cal P w K mg base "_law_price" 3 (spD K W (f__law_price) 1)) (G__law_take : Cal P w K mg base "_law_take" 2 (spD K W (f__law_take W) 2)) (G_cheapest_parts : Cal P w K mg base "cheapest_parts" 8 (spD K W (f_cheapest_parts) 1)) (G_Chart___init__ : CalI P w K mg base (W.cl 3) "Chart" 1 (spI K W (f_Chart___init__) 3 2)) (G_Chart_shows : CalM P w K mg base (W.cl 3) "shows" 8 (spD K W (f_Chart_shows) 2)) {k : Nat} (hk : 8 ≤ k) : ∀ (cdv : Value) (A : Around) (outer : List PySem.Env) (s : Shared) (H : Hp) (E : XK), Room k (A.deeper (envOfC "law" (defScope s_law) s.heap.objs.size f cdv)) → PDSs (cxOf (L2.CX P w) P w K mg base N_law "law" (defScope s_law) f cdv A outer s H E) W ((defBody s_law).drop 1) (g_law W) := fun cdv A outer s H E hr0 => by
  have hr := hr0.mono hk
  exact (S_cons (S_asg (c_call0 G__law_kinds (hr.mono (by decide)) rfl) (pg_name (i := 2) sc_law.nd rfl (Or.inl rfl)) (q_gV 2))
  (S_cons (S_asg (c_call G__law_chart (hr.mono (by decide)) rfl (ds_cons (dv 1) ds_nil) (al_cons al_nil)) (pg_name (i := 3) sc_law.nd rfl (Or.inl rfl)) (q_gV 3))
  (S_cons (S_par2 (ps_par (i := 4) (j := 5) rfl sc_law.nd rfl rfl (by decide) rfl rfl (ds_cons (c_call G_cheapest_parts (hr.mono (by decide)) rfl (ds_cons (dv 3) ds_nil) (al_cons al_nil)) (ds_cons (c_call G__law_best (hr.mono (by decide)) rfl (ds_cons (dv 3) (ds_cons (dv 2) ds_nil)) (al_cons (al_cons al_nil))) ds_nil)) (by rfl)))
  (S_cons (S_if (t_w (w_or (t_not (t_tru (c_meth G_Chart_shows (hr.mono (by decide)) T.cl3 (dv 4) (ds_cons (dv 3) ds_nil) (al_cons al_nil)))) (w_or (t_ne hr.units (c_call G__law_price (hr.mono (by decide)) rfl (ds_cons (d_fld T.cl3 T.n3_parts (dv 4)) ds_nil) (al_cons al_nil)) (d_ixA hr.units (dv 5) (d_B call_len q_len rfl T.b_len (by decide +kernel) (ds_cons (dv 3) ds_nil)))) (w_or1 (t_ne hr.units (d_B call_len q_len rfl T.b_len (by decide +kernel) (ds_cons (d_fld T.cl3 T.n3_bounds (dv 4)) ds_nil)) (d_add (d_B call_len q_len rfl T.b_len (by decide +kernel) (ds_cons (dv 3) ds_nil)) d_int)))))) (S_one (S_ret d_bl)) S_nil)
  (S_cons (S_if (t_w (w_or (t_ne hr.units (c_call G__law_all_rows (hr.mono (by decide)) rfl (ds_cons (d_fld T.cl3 T.n3_parts (dv 4)) (ds_cons d_int ds_nil)) (al_cons (al_cons al_nil))) (dv 3)) (w_or1 (t_not (t_tru (d_B (cr_all rfl) q_all rfl T.b_all (by decide +kernel) (ds_cons (d_comp rfl sc_law.nd (i_zip rfl T.b_zip (ds_cons (d_fld T.cl3 T.n3_bounds (dv 4)) (ds_cons (dv 5) ds_nil))) (blkOk_by (own := [("_law_one", 10), ("_law_other", 11)]) (N := N_law) (sc := defScope s_law) (by decide +kernel)) (fun _ _ _ _ _ => (pg_tup rfl (pgs_cons (pg_name (i := 10) sc_law.nd rfl (Or.inl rfl)) (pgs_cons (pg_name (i := 11) sc_law.nd rfl (Or.inl rfl)) pgs_nil)))) (q_gT (q_gsC (q_gV 10) (q_gsC (q_gV 11) q_gsN)) (gl_C (gl_C gl_N))) (by decide) (fun _ _ _ _ _ => ts_nil) (fun _ _ _ _ _ => (d_leA (dv 10) (dv 11)))) ds_nil))))))) (S_one (S_ret d_bl)) S_nil)
  (S_cons (S_asg (d_Ty call_tuple_of q_tupOf rfl T.b_tuple (by decide +kernel) (ds_cons (d_comp rfl sc_law.nd (i_of (dv 3)) (blkOk_by (own := [("_law_row", 12)]) (N := N_law) (sc := defScope s_law) (by decide +kernel)) (fun _ _ _ _ _ => (pg_name (i := 12) sc_law.nd rfl (Or.inl rfl))) (q_gV 12) (by decide) (fun _ _ _ _ _ => ts_nil) (fun _ _ _ _ _ => (d_tup (ds_cons d_str (ds_cons (dv 12) ds_nil))))) ds_nil)) (pg_name (i := 6) sc_law.nd rfl (Or.inl rfl)) (q_gV 6))
  (S_cons (S_if (t_ne hr.units (c_meth G_Chart_shows (hr.mono (by decide)) T.cl3 (c_make G_Chart___init__ (hr.mono (by decide)) rfl (ds_cons (dv 6) (ds_cons (dv 5) ds_nil)) (al_cons (al_cons al_nil))) (ds_cons (dv 3) ds_nil) (al_cons al_nil)) (d_eq hr.units (c_call G__law_price (hr.mono (by decide)) rfl (ds_cons (dv 6) ds_nil) (al_cons al_nil)) (d_ixA hr.units (dv 5) (d_B call_len q_len rfl T.b_len (by decide +kernel) (ds_cons (dv 3) ds_nil))))) (S_one (S_ret d_bl)) S_nil)
  (S_cons (S_if (t_not (t_tru (c_meth G_Chart_shows (hr.mono (by decide)) T.cl3 (c_make G_Chart___init__ (hr.mono (by decide)) rfl (ds_cons (d_fld T.cl3 T.n3_parts (dv 4)) (ds_cons (dv 5) ds_nil)) (al_cons (al_cons al_nil))) (ds_cons (dv 3) ds_nil) (al_cons al_nil)))) (S_one (S_ret d_bl)) S_nil)
  (S_cons (S_asg (d_add d_int (c_call G__law_take (hr.mono (by decide)) rfl (ds_cons (dv 1) (ds_cons (d_B call_len q_len rfl T.b_len (by decide +kernel) (ds_cons (dv 3) ds_nil)) ds_nil)) (al_cons (al_cons al_nil)))) (pg_name (i := 7) sc_law.nd rfl (Or.inl rfl)) (q_gV 7))
  (S_cons (S_asg (d_add (d_add (d_cut (dv 5) o_none (o_some (dv 7))) (d_lst (ds_cons (d_add (d_add (d_ixA hr.units (dv 5) (dv 7)) d_int) (c_call G__law_take (hr.mono (by decide)) rfl (ds_cons (dv 1) (ds_cons d_int ds_nil)) (al_cons (al_cons al_nil)))) ds_nil))) (d_cut (dv 5) (o_some (d_add (dv 7) d_int)) o_none)) (pg_name (i := 8) sc_law.nd rfl (Or.inl rfl)) (q_gV 8))
  (S_cons (S_if (t_w (w_or (t_tru (c_meth G_Chart_shows (hr.mono (by decide)) T.cl3 (c_make G_Chart___init__ (hr.mono (by decide)) rfl (ds_cons (d_fld T.cl3 T.n3_parts (dv 4)) (ds_cons (dv 8) ds_nil)) (al_cons (al_cons al_nil))) (ds_cons (dv 3) ds_nil) (al_cons al_nil))) (w_or (t_tru (c_meth G_Chart_shows (hr.mono (by decide)) T.cl3 (c_make G_Chart___init__ (hr.mono (by decide)) rfl (ds_cons (d_fld T.cl3 T.n3_parts (dv 4)) (ds_cons (d_cut (dv 5) (o_some d_int) o_none) ds_nil)) (al_cons (al_cons al_nil))) (ds_cons (dv 3) ds_nil) (al_cons al_nil))) (w_or1 (t_tru (c_meth G_Chart_shows (hr.mono (by decide)) T.cl3 (dv 4) (ds_cons (d_add (dv 3) (d_cut (dv 3) o_none (o_some d_int))) ds_nil) (al_cons al_nil))))))) (S_one (S_ret d_bl)) S_nil)
  (S_cons (S_if (t_tru (c_meth G_Chart_shows (hr.mono (by decide)) T.cl3 (c_make G_Chart___init__ (hr.mono (by decide)) rfl (ds_cons (d_cut (d_fld T.cl3 T.n3_parts (dv 4)) (o_some d_int) o_none) (ds_cons (dv 5) ds_nil)) (al_cons (al_cons al_nil))) (ds_cons (dv 3) ds_nil) (al_cons al_nil))) (S_one (S_ret d_bl)) S_nil)
  (S_cons (S_if (t_w (w_or (t_ne hr.units (d_fld T.cl3 T.n3_parts (c_call G_cheapest_parts (hr.mono (by decide)) rfl (ds_cons (d_lst ds_nil) ds_nil) (al_cons al_nil))) (d_tup ds_nil)) (w_or1 (t_not (t_tru (c_meth G_Chart_shows (hr.mono (by decide)) T.cl3 (c_call G_cheapest_parts (hr.mono (by decide)) rfl (ds_cons (d_lst ds_nil) ds_nil) (al_cons al_nil)) (ds_cons (d_lst ds_nil) ds_nil) (al_cons al_nil))))))) (S_one (S_ret d_bl)) S_nil)
  (S_cons (S_for (L2.passes_of rfl) rfl (i_of (d_tup (ds_cons (d_Ty call_tuple_of q_tupOf rfl T.b_tuple (by decide +kernel) (ds_cons (dv 3) ds_nil)) (ds_cons (d_lst (ds_cons (d_cut (d_ix (dv 3) d_int) o_none (o_some d_int)) ds_nil)) (ds_cons (d_mulL (d_lst (ds_cons (d_tup (ds_cons (d_tup ds_nil) (ds_cons (d_tup ds_nil) (ds_cons (d_tup ds_nil) ds_nil)))) ds_nil)) d_int) (ds_cons d_non ds_nil)))))) (pg_name (i := 9) sc_law.nd rfl (Or.inl rfl)) (q_gV 9) (S_one (S_try rfl rfl ⟨rfl, by decide, .inl T.g2⟩ T.tr2 (fun pn xe po => (S_consX (S_expX (c_call G_cheapest_parts (hr.mono (by decide)) rfl (ds_cons (dv 9) ds_nil) (al_cons al_nil))) (S_one (S_ret d_bl)))) (fun a pn => (S_one S_pass)))))
  (S_one (S_ret d_bl))))))))))))))))
end
end P_k47_whole_charts
end

section
set_option Elab.async false
set_option linter.all false
set_option autoImplicit false
set_option maxRecDepth 100000
/-! evaluating the functions over plain data -/
namespace DL
open PySem L2
/-- the ways on, by names of their own (no match stands in a goal) -/
def bindR {α β : Type} (r : Option (Except Xc α × Int)) (k : α → M β) : Option (Except Xc β × Int) := match r with
  | none => none
  | some (.ok x, n1) => k x n1
  | some (.error e, n1) => some (.error e, n1)
@[simp] theorem bindR_ok {α β : Type} (x : α) (n : Int) (k : α → M β) : bindR (some (.ok x, n)) k = k x n := (rfl)
@[simp] theorem bindR_none {α β : Type} (k : α → M β) : bindR none k = none := (rfl)
@[simp] theorem bindR_err {α β : Type} (e : Xc) (n : Int) (k : α → M β) : bindR (some (.error e, n)) k = some (.error e, n) := (rfl)
def selB {α : Type} (b : Bool) (x y : α) : α := match b with | true => x | false => y
@[simp] theorem selB_true {α : Type} (x y : α) : selB true x y = x := (rfl)
@[simp] theorem selB_false {α : Type} (x y : α) : selB false x y = y := (rfl)
def seqK (h : SX) (o : Out) : M Out := match o with
  | .nx ρ' => h ρ'
  | .bk ρ' => M.pure (.bk ρ')
  | .ct ρ' => M.pure (.ct ρ')
  | .ret d => M.pure (.ret d)
@[simp] theorem seqK_nx (h : SX) (ρ : Env) : seqK h (.nx ρ) = h ρ := (rfl)
@[simp] theorem seqK_bk (h : SX) (ρ : Env) : seqK h (.bk ρ) = M.pure (.bk ρ) := (rfl)
@[simp] theorem seqK_ct (h : SX) (ρ : Env) : seqK h (.ct ρ) = M.pure (.ct ρ) := (rfl)
@[simp] theorem seqK_ret (h : SX) (d : D) : seqK h (.ret d) = M.pure (.ret d) := (rfl)
def runK (o : Out) : M D := match o with
  | .ret d => M.pure d
  | .nx _ => M.pure .non
  | _ => M.opt none
@[simp] theorem runK_ret (d : D) : runK (.ret d) = M.pure d := (rfl)
@[simp] theorem runK_nx (ρ : Env) : runK (.nx ρ) = M.pure .non := (rfl)
def runIK (o : Out) : M D := match o with
  | .nx (Sl.own d :: _) => M.pure d
  | _ => M.opt none
@[simp] theorem runIK_nx (d : D) (r : Env) : runIK (.nx (Sl.own d :: r)) = M.pure d := (rfl)
/-- behind a turn: on with k, or out -/
def turnK (k : Env → M Out) (o : Out) : M Out := match o with
  | .nx ρ2 => k ρ2
  | .ct ρ2 => k ρ2
  | .bk ρ2 => M.pure (.nx ρ2)
  | .ret d => M.pure (.ret d)
@[simp] theorem turnK_nx (k : Env → M Out) (ρ : Env) : turnK k (.nx ρ) = k ρ := (rfl)
@[simp] theorem turnK_ct (k : Env → M Out) (ρ : Env) : turnK k (.ct ρ) = k ρ := (rfl)
@[simp] theorem turnK_bk (k : Env → M Out) (ρ : Env) : turnK k (.bk ρ) = M.pure (.nx ρ) := (rfl)
@[simp] theorem turnK_ret (k : Env → M Out) (d : D) : turnK k (.ret d) = M.pure (.ret d) := (rfl)
def makeK (c : Nat) (d : D) : M D := match d with
  | .obj c' ks vs => if c' = c then M.pure (.obj c' ks vs) else M.opt none
  | _ => M.opt none
@[simp] theorem makeK_obj (c : Nat) (ks : List Str) (vs : List D) : makeK c (.obj c ks vs) = M.pure (.obj c ks vs) := if_pos rfl
def intK (d : D) : Option (Option Int) := match d with | .int i => some (some i) | _ => none
@[simp] theorem intK_int (i : Int) : intK (.int i) = some (some i) := (rfl)
def chainK (o2 : D → D → Option D) (y : D) (fc : M D) (r : D) : M D := match r with
  | .bl true => M.bind fc fun z => M.opt (o2 y z)
  | .bl false => M.pure (.bl false)
  | _ => M.opt none
@[simp] theorem chainK_true (o2 : D → D → Option D) (y : D) (fc : M D) : chainK o2 y fc (.bl true) = M.bind fc fun z => M.opt (o2 y z) := (rfl)
@[simp] theorem chainK_false (o2 : D → D → Option D) (y : D) (fc : M D) : chainK o2 y fc (.bl false) = M.pure (.bl false) := (rfl)
def consO (y : Option D) (ys : List D) : List D := match y with | some z => z :: ys | none => ys
@[simp] theorem consO_some (z : D) (ys : List D) : consO (some z) ys = z :: ys := (rfl)
@[simp] theorem consO_none (ys : List D) : consO none ys = ys := (rfl)
def findK (o : Option D) (r : D → D) (ρ : Env) : Out := match o with | some d => .ret (r d) | none => .nx ρ
@[simp] theorem findK_some (d : D) (r : D → D) (ρ : Env) : findK (some d) r ρ = .ret (r d) := (rfl)
@[simp] theorem findK_none (r : D → D) (ρ : Env) : findK none r ρ = .nx ρ := (rfl)
@[simp] theorem bind_ap {α β : Type} (a : M α) (k : α → M β) (n : Int) : M.bind a k n = bindR (a n) k := (rfl)
@[simp] theorem pure_ap {α : Type} (a : α) (n : Int) : M.pure a n = some (.ok a, n) := (rfl)
@[simp] theorem opt_some {α : Type} (a : α) (n : Int) : M.opt (some a) n = some (.ok a, n) := (rfl)
@[simp] theorem opt_none {α : Type} (n : Int) : (M.opt (none : Option α)) n = none := (rfl)
@[simp] theorem eVar_0 (d : D) (r : Env) (n : Int) : eVar 0 (.val d :: r) n = some (.ok d, n) := (rfl)
@[simp] theorem eVar_s (i : Nat) (s : Sl) (r : Env) (n : Int) : eVar (i + 1) (s :: r) n = eVar i r n := (rfl)
@[simp] theorem eC_ap (d : D) (ρ : Env) (n : Int) : eC d ρ n = some (.ok d, n) := (rfl)
@[simp] theorem eNil_ap (ρ : Env) (n : Int) : eNil ρ n = some (.ok [], n) := (rfl)
@[simp] theorem eCons_ap (f : EX) (g : EXs) (ρ : Env) (n : Int) : eCons f g ρ n = M.bind (f ρ) (fun d => M.bind (g ρ) fun ds => M.pure (d :: ds)) n := (rfl)
@[simp] theorem eTup_ap (f : EXs) (ρ : Env) (n : Int) : eTup f ρ n = M.bind (f ρ) (fun ds => M.opt (mkTup ds)) n := (rfl)
@[simp] theorem eLst_ap (f : EXs) (ρ : Env) (n : Int) : eLst f ρ n = M.bind (f ρ) (fun ds => M.opt (mkLst ds)) n := (rfl)
@[simp] theorem e2_ap (op : D → D → Option D) (a b : EX) (ρ : Env) (n : Int) : e2 op a b ρ n = M.bind (a ρ) (fun x => M.bind (b ρ) fun y => M.opt (op x y)) n := (rfl)
@[simp] theorem e1_ap (op : D → Option D) (a : EX) (ρ : Env) (n : Int) : e1 op a ρ n = M.bind (a ρ) (fun x => M.opt (op x)) n := (rfl)
@[simp] theorem eB_ap (op : List D → Option D) (a : EXs) (ρ : Env) (n : Int) : eB op a ρ n = M.bind (a ρ) (fun x => M.opt (op x)) n := (rfl)
@[simp] theorem eCall_ap (fx : FX) (a : EXs) (ρ : Env) (n : Int) : eCall fx a ρ n = M.bind (a ρ) fx n := (rfl)
@[simp] theorem eMake_ap (c : Nat) (fx : FX) (a : EXs) (ρ : Env) (n : Int) : eMake c fx a ρ n = M.bind (a ρ) (fun ds => M.bind (fx ds) (makeK c)) n := (rfl)
@[simp] theorem eMeth_ap (c : Nat) (m : Str) (fx : FX) (fo : EX) (fs : EXs) (ρ : Env) (n : Int) : eMeth c m fx fo fs ρ n = M.bind (fo ρ) (fun o => if isObj c m o then M.bind (fs ρ) fun ds => fx (o :: ds) else M.opt none) n := (rfl)
@[simp] theorem eIf_ap (t : TX) (f g : EX) (ρ : Env) (n : Int) : eIf t f g ρ n = M.bind (t ρ) (fun b => selB b (f ρ) (g ρ)) n := (rfl)
@[simp] theorem eAnd_ap (f g : EX) (ρ : Env) (n : Int) : eAnd f g ρ n = M.bind (f ρ) (fun d => M.bind (M.opt (dTru d)) fun b => selB b (g ρ) (M.pure d)) n := (rfl)
@[simp] theorem eOr_ap (f g : EX) (ρ : Env) (n : Int) : eOr f g ρ n = M.bind (f ρ) (fun d => M.bind (M.opt (dTru d)) fun b => selB b (M.pure d) (g ρ)) n := (rfl)
@[simp] theorem eNot_ap (f : EX) (ρ : Env) (n : Int) : eNot f ρ n = M.bind (f ρ) (fun d => M.bind (M.opt (dTru d)) fun b => M.pure (.bl (!b))) n := (rfl)
@[simp] theorem eCut_ap (f : EX) (lo hi : EO) (ρ : Env) (n : Int) : eCut f lo hi ρ n = M.bind (f ρ) (fun x => M.bind (lo ρ) fun l => M.bind (hi ρ) fun h => M.opt (dCut x l h)) n := (rfl)
@[simp] theorem oNone_ap (ρ : Env) (n : Int) : oNone ρ n = some (.ok none, n) := (rfl)
@[simp] theorem oSome_ap (f : EX) (ρ : Env) (n : Int) : oSome f ρ n = M.bind (f ρ) (fun d => M.opt (intK d)) n := (rfl)
@[simp] theorem eChain_ap (o1 o2 : D → D → Option D) (fa fb fc : EX) (ρ : Env) (n : Int) : eChain o1 o2 fa fb fc ρ n = M.bind (fa ρ) (fun x => M.bind (fb ρ) fun y => M.bind (M.opt (o1 x y)) fun r => chainK o2 y (fc ρ) r) n := (rfl)
@[simp] theorem tB_ap (f : EX) (ρ : Env) (n : Int) : tB f ρ n = M.bind (f ρ) (fun d => M.opt (dBool d)) n := (rfl)
@[simp] theorem tTru_ap (f : EX) (ρ : Env) (n : Int) : tTru f ρ n = M.bind (f ρ) (fun d => M.opt (dTru d)) n := (rfl)
@[simp] theorem tAndD_ap (t u : TX) (ρ : Env) (n : Int) : tAndD t u ρ n = M.bind (t ρ) (fun b => selB b (u ρ) (M.pure false)) n := (rfl)
@[simp] theorem tOrD_ap (t u : TX) (ρ : Env) (n : Int) : tOrD t u ρ n = M.bind (t ρ) (fun b => selB b (M.pure true) (u ρ)) n := (rfl)
@[simp] theorem tNotD_ap (t : TX) (ρ : Env) (n : Int) : tNotD t ρ n = M.bind (t ρ) (fun b => M.pure (!b)) n := (rfl)
@[simp] theorem tYesD_ap (ρ : Env) (n : Int) : tYesD ρ n = some (.ok true, n) := (rfl)
@[simp] theorem dBool_bl (b : Bool) : dBool (.bl b) = some b := (rfl)
@[simp] theorem dTru_bl (b : Bool) : dTru (.bl b) = some b := (rfl)
@[simp] theorem isNon_non : isNon .non = true := (rfl)
@[simp] theorem isNon_int (i : Int) : isNon (.int i) = false := (rfl)
@[simp] theorem isNon_tup (xs : List D) : isNon (.tup xs) = false := (rfl)
@[simp] theorem sNx_ap (ρ : Env) (n : Int) : sNx ρ n = some (.ok (.nx ρ), n) := (rfl)
@[simp] theorem sSeq_ap (g h : SX) (ρ : Env) (n : Int) : sSeq g h ρ n = M.bind (g ρ) (seqK h) n := (rfl)
@[simp] theorem sRet_ap (f : EX) (ρ : Env) (n : Int) : sRet f ρ n = M.bind (f ρ) (fun d => M.pure (.ret d)) n := (rfl)
@[simp] theorem sExp_ap (f : EX) (ρ : Env) (n : Int) : sExp f ρ n = M.bind (f ρ) (fun _ => M.pure (.nx ρ)) n := (rfl)
@[simp] theorem sAsg_ap (g : GX) (f : EX) (ρ : Env) (n : Int) : sAsg g f ρ n = M.bind (f ρ) (fun d => M.bind (M.opt (g d ρ)) fun ρ' => M.pure (.nx ρ')) n := (rfl)
@[simp] theorem sIf_ap (t : TX) (g h : SX) (ρ : Env) (n : Int) : sIf t g h ρ n = M.bind (t ρ) (fun b => selB b (g ρ) (h ρ)) n := (rfl)
@[simp] theorem sFor_ap (g : GX) (it : IX) (b : SX) (ρ : Env) (n : Int) : sFor g it b ρ n = M.bind (it ρ) (fun ds => forD g b ds ρ) n := (rfl)
@[simp] theorem sWhile_ap (m : Env → Nat) (t : TX) (b : SX) (ρ : Env) (n : Int) : sWhile m t b ρ n = whileD t b (m ρ) ρ n := (rfl)
@[simp] theorem sAug_ap (i : Nat) (op : D → D → Option D) (f : EX) (ρ : Env) (n : Int) : sAug i op f ρ n = M.bind (eVar i ρ) (fun a => M.bind (f ρ) fun b => M.bind (M.opt (op a b)) fun d => M.pure (.nx (ρ.set i (.val d)))) n := (rfl)
@[simp] theorem sUp_ap (i : Nat) (up : D → D → Option D) (f : EX) (ρ : Env) (n : Int) : sUp i up f ρ n = M.bind (f ρ) (fun d => M.bind (M.opt ((own? ρ i).bind (up d))) fun o => M.pure (.nx (ρ.set i (.own o)))) n := (rfl)
@[simp] theorem sPar_ap (is : List Nat) (f : EXs) (ρ : Env) (n : Int) : sPar is f ρ n = M.bind (f ρ) (fun ds => if ds.length = is.length then M.pure (.nx ((is.zip ds).foldl (fun r p => r.set p.1 (.val p.2)) ρ)) else M.opt none) n := (rfl)
@[simp] theorem own_0 (d : D) (r : Env) : own? (.own d :: r) 0 = some d := (rfl)
@[simp] theorem own_s (i : Nat) (s : Sl) (r : Env) : own? (s :: r) (i + 1) = own? r i := (rfl)
@[simp] theorem gV_ap (i : Nat) (d : D) (ρ : Env) : gV i d ρ = some (ρ.set i (.val d)) := (rfl)
@[simp] theorem gT_ap (g : GXs) (ds : List D) (ρ : Env) : gT g (.tup ds) ρ = g ds ρ := (rfl)
@[simp] theorem gsN_ap (ρ : Env) : gsN [] ρ = some ρ := (rfl)
@[simp] theorem gsC_ap (g : GX) (gs : GXs) (d : D) (r : List D) (ρ : Env) : gsC g gs (d :: r) ρ = (g d ρ).bind fun ρ1 => gs r ρ1 := (rfl)
@[simp] theorem iOf_ap (f : EX) (ρ : Env) (n : Int) : iOf f ρ n = M.bind (f ρ) (fun d => M.opt (dItems d)) n := (rfl)
@[simp] theorem iRng1D_ap (f : EXs) (ρ : Env) (n : Int) : iRng1D f ρ n = M.bind (f ρ) (fun ds => M.opt (dRng1 ds)) n := (rfl)
@[simp] theorem iRng2D_ap (f : EXs) (ρ : Env) (n : Int) : iRng2D f ρ n = M.bind (f ρ) (fun ds => M.opt (dRng2 ds)) n := (rfl)
@[simp] theorem dItems_tup (ds : List D) : dItems (.tup ds) = some ds := (rfl)
@[simp] theorem dItems_lst (ds : List D) : dItems (.lst ds) = some ds := (rfl)
def calmR {α : Type} (r : Option (Except Xc α × Int)) : Option (Except Xc α × Int) := match r with
  | some (.ok x, n1) => some (.ok x, n1)
  | _ => none
@[simp] theorem calmR_ok {α : Type} (x : α) (n : Int) : calmR (some (Except.ok x, n)) = some (.ok x, n) := (rfl)
@[simp] theorem calm_ap {α : Type} (a : M α) (n : Int) : M.calm a n = calmR (a n) := (rfl)
@[simp] theorem eComp_ap (vs : List Nat) (g : GX) (it : IX) (t : TX) (f : EX) (ρ : Env) (n : Int) : eComp vs g it t f ρ n = M.bind (it ρ) (fun ds => M.bind (M.calm (compD (compB vs g t f ρ) ds)) fun ys => M.opt (mkLst ys)) n := (rfl)
@[simp] theorem ownLst_0 (ds : List D) (r : Env) : ownLst 0 (.own (.lst ds) :: r) = some () := (rfl)
@[simp] theorem ownLst_s (i : Nat) (s : Sl) (r : Env) : ownLst (i + 1) (s :: r) = ownLst i r := (rfl)
@[simp] theorem sApp_ap (i : Nat) (f : EX) (ρ : Env) (n : Int) : sApp i f ρ n = M.bind (M.opt (ownLst i ρ)) (fun _ => sUp i uApp f ρ) n := (rfl)
@[simp] theorem compB_ap (vs : List Nat) (g : GX) (t : TX) (f : EX) (ρ : Env) (d : D) (n : Int) : compB vs g t f ρ d n = M.bind (M.opt (g d (hide (wipeD ρ vs)))) (fun ρ1 => M.bind (t ρ1) fun b => selB b (M.bind (f ρ1) fun y => M.pure (some y)) (M.pure none)) n := (rfl)
@[simp] theorem hide_nil : hide [] = [] := (rfl)
@[simp] theorem hide_no (r : Env) : hide (.no :: r) = .no :: hide r := (rfl)
@[simp] theorem hide_val (d : D) (r : Env) : hide (.val d :: r) = .val d :: hide r := (rfl)
@[simp] theorem hide_own (d : D) (r : Env) : hide (.own d :: r) = .no :: hide r := (rfl)
@[simp] theorem wipeD_nil (ρ : Env) : wipeD ρ [] = ρ := (rfl)
@[simp] theorem wipeD_cons (ρ : Env) (v : Nat) (vs : List Nat) : wipeD ρ (v :: vs) = (wipeD ρ vs).set v .no := (rfl)
@[simp] theorem runD_ap (N P : Nat) (g : SX) (ds : List D) (n : Int) : runD N P g ds n = M.bind (g (ds.map Sl.val ++ List.replicate (N - P) Sl.no)) runK n := (rfl)
@[simp] theorem runI_ap (N P c : Nat) (g : SX) (ds : List D) (n : Int) : runI N P c g ds n = M.bind (g (Sl.own (.obj c [] []) :: ds.map Sl.val ++ List.replicate (N - P) Sl.no)) runIK n := (rfl)
@[simp] theorem forD_nil (g : GX) (b : SX) (ρ : Env) (n : Int) : forD g b [] ρ n = some (.ok (.nx ρ), n) := (rfl)
theorem forD_cons (g : GX) (b : SX) (d : D) (ds : List D) (ρ : Env) (n : Int) : forD g b (d :: ds) ρ n = M.bind (M.opt (g d ρ)) (fun ρ1 => M.bind (b ρ1) (turnK (forD g b ds))) n := (rfl)
theorem whileD_s (t : TX) (b : SX) (m : Nat) (ρ : Env) (n : Int) : whileD t b (m + 1) ρ n = M.bind (t ρ) (fun c => selB c (M.bind (b ρ) (turnK (whileD t b m))) (M.pure (.nx ρ))) n := by
  show M.bind (t ρ) _ n = M.bind (t ρ) _ n
  congr 1
  funext c
  cases c
  · rfl
  · show M.bind (b ρ) _ = M.bind (b ρ) _
    congr 1
theorem compD_nil (b : D → M (Option D)) (n : Int) : compD b [] n = some (.ok [], n) := (rfl)
theorem compD_cons (b : D → M (Option D)) (d : D) (ds : List D) (n : Int) : compD b (d :: ds) n = M.bind (b d) (fun y => M.bind (compD b ds) fun ys => M.pure (consO y ys)) n := (rfl)
theorem small62_of {i : Int} (h : -1000000 ≤ i) (h2 : i ≤ 1000000) : small62 i = true := by
  unfold small62
  simp only [Bool.and_eq_true, decide_eq_true_eq]
  exact ⟨by omega, by omega⟩
theorem small64_of {i : Int} (h : -1000000 ≤ i) (h2 : i ≤ 1000000) : small64 i = true := by
  unfold small64
  simp only [Bool.and_eq_true, decide_eq_true_eq]
  exact ⟨by omega, by omega⟩
theorem dRng1_ok {j : Int} (h : -1000000 ≤ j) (h2 : j ≤ 1000000) : dRng1 [.int j] = some (rngD 0 j) := if_pos (small62_of h h2)
theorem dRng2_ok {i j : Int} (h : -1000000 ≤ i) (h2 : i ≤ 1000000) (h3 : -1000000 ≤ j) (h4 : j ≤ 1000000) : dRng2 [.int i, .int j] = some (rngD i j) := if_pos (by rw [small62_of h h2, small62_of h3 h4]; rfl)
theorem szl : sizeLine = 16777216 := sizeLine_eq
@[simp] theorem mkTup_of {ds : List D} (h : ds.length ≤ 16777216) : mkTup ds = some (.tup ds) := by
  unfold mkTup gz; rw [sizeLine_eq, decide_eq_true h]; rfl
@[simp] theorem mkLst_of {ds : List D} (h : ds.length ≤ 16777216) : mkLst ds = some (.lst ds) := by
  unfold mkLst gz; rw [sizeLine_eq, decide_eq_true h]; rfl
/-! ### comprehensions, loops -/
/-- a comprehension whose elements don't draw -/
theorem compD_map (b : D → M (Option D)) (f : D → Option D) (n : Int) : ∀ ds : List D, (∀ d ∈ ds, b d n = some (.ok (f d), n)) → compD b ds n = some (.ok (ds.filterMap f), n)
  | [], _ => rfl
  | d :: ds, h => by
    have h1 := h d List.mem_cons_self
    have h2 := compD_map b f n ds fun x hx => h x (List.mem_cons_of_mem _ hx)
    rw [compD_cons]
    simp only [bind_ap, h1, h2, pure_ap, List.filterMap_cons, bindR_ok]
    cases f d <;> rfl
/-- a loop that searches: it leaves with a value at the first hit -/
theorem forD_find (i : Nat) (b : SX) (p : D → Bool) (r : D → D) (ρ : Env) (n : Int) : ∀ (ds : List D) (s0 : Sl), (∀ d ∈ ds, b (ρ.set i (.val d)) n = some (.ok (if p d then .ret (r d) else .nx (ρ.set i (.val d))), n)) →
    ∃ s, forD (gV i) b ds (ρ.set i s0) n = some (.ok (findK (ds.find? p) r (ρ.set i s)), n)
  | [], s0, _ => ⟨s0, rfl⟩
  | d :: ds, s0, h => by
    have h1 := h d List.mem_cons_self
    obtain ⟨s, h2⟩ := forD_find i b p r ρ n ds (.val d) fun x hx => h x (List.mem_cons_of_mem _ hx)
    rw [forD_cons]
    simp only [bind_ap, gV_ap, opt_some, List.set_set, h1, bindR_ok]
    cases hp : p d with
    | true => exact ⟨s0, by simp [hp]⟩
    | false => exact ⟨s, by simp [hp, h2]⟩
/-- a loop that checks: it goes through -/
theorem forD_all (i : Nat) (b : SX) (ρ : Env) (n : Int) (ds : List D) (s0 : Sl) (h : ∀ d ∈ ds, b (ρ.set i (.val d)) n = some (.ok (.nx (ρ.set i (.val d))), n)) :
    ∃ s, forD (gV i) b ds (ρ.set i s0) n = some (.ok (.nx (ρ.set i s)), n) := by
  obtain ⟨s, e⟩ := forD_find i b (fun _ => false) (fun d => d) ρ n ds s0 (fun d hd => by rw [h d hd]; rfl)
  refine ⟨s, ?_⟩
  rw [e]
  have : ds.find? (fun _ => false) = none := by simp
  rw [this, findK_none]
theorem mem_rngD {d : D} {lo hi : Int} (h : d ∈ rngD lo hi) : ∃ i : Int, d = .int i ∧ lo ≤ i ∧ i < hi := by
  unfold rngD at h
  obtain ⟨k, hk, e⟩ := List.mem_map.mp h
  rw [List.mem_range] at hk
  exact ⟨lo + k, e.symm, by omega, by omega⟩

/-! ### data that is compared -/
class PyE (α : Type) where
  enc : α → D
  py : α → PyData
  to : ∀ x, toPy (enc x) = some (py x)
  lay : ∀ x, (py x).canLay0 = true
  dep : ∀ x, (py x).depth ≤ 8
  eqv : ∀ x y, PyData.eqv (py x) (py y) = true ↔ x = y
theorem PyE.toAll {α : Type} [PyE α] : ∀ xs : List α, toPys (xs.map PyE.enc) = some (xs.map PyE.py)
  | [] => by simp [toPys]
  | x :: xs => by
    rw [List.map_cons, List.map_cons]
    unfold toPys
    rw [PyE.to, PyE.toAll xs]
theorem PyE.layAll {α : Type} [PyE α] : ∀ xs : List α, PyData.canLayAll0 (xs.map PyE.py) = true
  | [] => by simp [PyData.canLayAll0]
  | x :: xs => by
    rw [List.map_cons]
    unfold PyData.canLayAll0
    rw [PyE.lay, PyE.layAll xs]; rfl
theorem PyE.depAll {α : Type} [PyE α] : ∀ xs : List α, PyData.depthAll (xs.map PyE.py) ≤ 8
  | [] => by simp [PyData.depthAll]
  | x :: xs => by
    rw [List.map_cons]
    unfold PyData.depthAll
    have := PyE.dep x
    have := PyE.depAll xs
    omega
theorem PyE.eqvAll {α : Type} [PyE α] : ∀ xs ys : List α, PyData.eqvAll (xs.map PyE.py) (ys.map PyE.py) = true ↔ xs = ys
  | [], [] => by simp [PyData.eqvAll]
  | [], y :: ys => by simp [PyData.eqvAll]
  | x :: xs, [] => by simp [PyData.eqvAll]
  | x :: xs, y :: ys => by
    rw [List.map_cons, List.map_cons]
    unfold PyData.eqvAll
    rw [Bool.and_eq_true, PyE.eqv, PyE.eqvAll xs ys]
    simp
theorem PyE.shaped {α : Type} [PyE α] (x : α) : SeqAt.shaped (PyE.py x) = true := by
  unfold SeqAt.shaped
  have := PyE.dep x
  rw [PyE.lay]; simp; omega
theorem bool_dec {b : Bool} {p : Prop} [Decidable p] (h : b = true ↔ p) : b = decide p := by
  by_cases q : p
  · rw [decide_eq_true q]; exact h.mpr q
  · rw [decide_eq_false q]
    cases b with
    | true => exact absurd (h.mp rfl) q
    | false => rfl
theorem dEqB_enc {α : Type} [PyE α] [DecidableEq α] (x y : α) : dEqB (PyE.enc x) (PyE.enc y) = some (decide (x = y)) := by
  unfold dEqB
  simp only [PyE.to, PyE.shaped, Bool.and_self, if_true]
  rw [bool_dec (PyE.eqv x y)]
theorem dEq_enc {α : Type} [PyE α] [DecidableEq α] (x y : α) : dEq (PyE.enc x) (PyE.enc y) = some (.bl (decide (x = y))) := by
  unfold dEq; rw [dEqB_enc]
theorem dNe_enc {α : Type} [PyE α] [DecidableEq α] (x y : α) : dNe (PyE.enc x) (PyE.enc y) = some (.bl (!decide (x = y))) := by
  unfold dNe; rw [dEqB_enc]
/-- tuples and lists of such -/
def encT {α : Type} [PyE α] (xs : List α) : D := .tup (xs.map PyE.enc)
def encL {α : Type} [PyE α] (xs : List α) : D := .lst (xs.map PyE.enc)
theorem dEqB_T {α : Type} [PyE α] [DecidableEq α] (x y : List α) : dEqB (encT x) (encT y) = some (decide (x = y)) := by
  unfold dEqB encT
  have s : ∀ x : List α, SeqAt.shaped (.tuple (x.map PyE.py)) = true := fun x => by
    unfold SeqAt.shaped PyData.canLay0 PyData.depth
    have := PyE.depAll x
    rw [PyE.layAll]; simp; omega
  unfold toPy
  rw [PyE.toAll, PyE.toAll]
  simp only [s, Bool.and_self, if_true]
  unfold PyData.eqv
  rw [bool_dec (PyE.eqvAll x y)]
theorem dEqB_L {α : Type} [PyE α] [DecidableEq α] (x y : List α) : dEqB (encL x) (encL y) = some (decide (x = y)) := by
  unfold dEqB encL
  have s : ∀ x : List α, SeqAt.shaped (.list (x.map PyE.py)) = true := fun x => by
    unfold SeqAt.shaped PyData.canLay0 PyData.depth
    have := PyE.depAll x
    rw [PyE.layAll]; simp; omega
  unfold toPy
  rw [PyE.toAll, PyE.toAll]
  simp only [s, Bool.and_self, if_true]
  unfold PyData.eqv
  rw [bool_dec (PyE.eqvAll x y)]
theorem dEq_T {α : Type} [PyE α] [DecidableEq α] (x y : List α) : dEq (encT x) (encT y) = some (.bl (decide (x = y))) := by unfold dEq; rw [dEqB_T]
theorem dNe_T {α : Type} [PyE α] [DecidableEq α] (x y : List α) : dNe (encT x) (encT y) = some (.bl (!decide (x = y))) := by unfold dNe; rw [dEqB_T]
theorem dEq_L {α : Type} [PyE α] [DecidableEq α] (x y : List α) : dEq (encL x) (encL y) = some (.bl (decide (x = y))) := by unfold dEq; rw [dEqB_L]
theorem dNe_L {α : Type} [PyE α] [DecidableEq α] (x y : List α) : dNe (encL x) (encL y) = some (.bl (!decide (x = y))) := by unfold dNe; rw [dEqB_L]
instance : PyE Int where
  enc := D.int
  py := PyData.int
  to := fun x => by unfold toPy; rfl
  lay := fun x => by unfold PyData.canLay0; rfl
  dep := fun x => by unfold PyData.depth; omega
  eqv := fun x y => by unfold PyData.eqv; simp
@[simp] theorem dEq_int (i j : Int) : dEq (.int i) (.int j) = some (.bl (decide (i = j))) := dEq_enc (α := Int) i j
@[simp] theorem dNe_int (i j : Int) : dNe (.int i) (.int j) = some (.bl (!decide (i = j))) := dNe_enc (α := Int) i j
@[simp] theorem dLt_int (i j : Int) : dLt (.int i) (.int j) = some (.bl (decide (i < j))) := (rfl)
@[simp] theorem dLe_int (i j : Int) : dLe (.int i) (.int j) = some (.bl (decide (i ≤ j))) := (rfl)
@[simp] theorem dGt_int (i j : Int) : dGt (.int i) (.int j) = some (.bl (decide (j < i))) := (rfl)
@[simp] theorem dGe_int (i j : Int) : dGe (.int i) (.int j) = some (.bl (decide (j ≤ i))) := (rfl)
@[simp] theorem dAdd_int (i j : Int) : dAdd (.int i) (.int j) = some (.int (i + j)) := (rfl)
@[simp] theorem dSub_int (i j : Int) : dSub (.int i) (.int j) = some (.int (i - j)) := (rfl)
@[simp] theorem dNeg_int (i : Int) : dNeg (.int i) = some (.int (-i)) := (rfl)
theorem dMul_int {i j : Int} (h : small64 i = true ∨ small64 j = true) : dMul (.int i) (.int j) = some (.int (i * j)) := by
  exact if_pos (by rw [Bool.or_eq_true]; exact h)
theorem dMod_int {i j : Int} (h : 0 < j) : dMod (.int i) (.int j) = some (.int (i % j)) := by
  exact if_pos (decide_eq_true h)
theorem dDiv_int {i j : Int} (h : 0 < j) (h2 : j < 1073741824) : dDiv (.int i) (.int j) = some (.int (i / j)) := by
  exact if_pos (by simp only [Bool.and_eq_true, decide_eq_true_eq]; exact ⟨h, h2⟩)
@[simp] theorem dLen_tup (xs : List D) : dLen [.tup xs] = some (.int xs.length) := (rfl)
@[simp] theorem dLen_lst (xs : List D) : dLen [.lst xs] = some (.int xs.length) := (rfl)
@[simp] theorem dLen_T {α : Type} [PyE α] (xs : List α) : dLen [encT xs] = some (.int xs.length) := by simp [encT]
theorem dAdd_T {α : Type} [PyE α] {xs ys : List α} (h : xs.length + ys.length ≤ 16777216) : dAdd (encT xs) (encT ys) = some (encT (xs ++ ys)) := by
  unfold dAdd encT
  simp only [← List.map_append]
  rw [mkTup_of (by simpa using h)]
theorem rep_map {α β : Type} (f : α → β) (xs : List α) (k : Nat) : (List.replicate k (xs.map f)).flatten = ((List.replicate k xs).flatten).map f := by
  induction k with
  | zero => rfl
  | succ k ih => rw [List.replicate_succ, List.replicate_succ, List.flatten_cons, List.flatten_cons, ih, List.map_append]
/-- xs, k times -/
def pw {α : Type} (xs : List α) (k : Nat) : List α := (List.replicate k xs).flatten
theorem pw_zero {α : Type} (xs : List α) : pw xs 0 = [] := rfl
theorem pw_succ {α : Type} (xs : List α) (k : Nat) : pw xs (k + 1) = xs ++ pw xs k := by unfold pw; rw [List.replicate_succ, List.flatten_cons]
theorem pw_length {α : Type} (xs : List α) : ∀ k : Nat, (pw xs k).length = k * xs.length
  | 0 => by simp [pw_zero]
  | k + 1 => by rw [pw_succ, List.length_append, pw_length xs k, Nat.succ_mul]; omega
theorem dMul_T {α : Type} [PyE α] {xs : List α} {k : Nat} (h : k ≤ 1000) (h2 : xs.length ≤ 1000) : dMul (encT xs) (.int k) = some (encT (pw xs k)) := by
  unfold dMul encT pw
  have a : ((xs.length : Nat) : Int) * (k : Int) ≤ 1000000 := by
    have : xs.length * k ≤ 1000 * 1000 := Nat.mul_le_mul h2 h
    have : ((xs.length * k : Nat) : Int) ≤ 1000000 := by omega
    rw [Int.natCast_mul] at this; exact this
  refine (if_pos (by simp only [List.length_map, Bool.and_eq_true, decide_eq_true_eq]; exact ⟨⟨by omega, by omega⟩, a⟩)).trans ?_
  rw [Int.toNat_natCast, rep_map]
theorem cut_map {α : Type} [PyE α] (xs : List α) (lo hi : Option Int) : dCut (encT xs) lo hi = some (encT ((xs.drop (HT.sIx xs.length 0 lo)).take (HT.sIx xs.length xs.length hi - HT.sIx xs.length 0 lo))) := by
  unfold dCut encT cutD
  simp only [List.length_map, List.map_take, List.map_drop]
theorem sIx_neg1 (n d : Nat) : HT.sIx n d (some (-1)) = n - 1 := by
  unfold HT.sIx
  simp
  omega
@[simp] theorem cut_from {α : Type} [PyE α] (xs : List α) (k : Nat) : dCut (encT xs) (some (k : Int)) none = some (encT (xs.drop k)) := by
  rw [cut_map, HT.sIx_nat, HT.sIx_none]
  congr 2
  by_cases h : k ≤ xs.length
  · rw [Nat.min_eq_left h, List.take_of_length_le (by simp)]
  · rw [Nat.min_eq_right (by omega), List.drop_eq_nil_of_le (by omega), List.drop_eq_nil_of_le (by omega)]; simp
@[simp] theorem cut_to {α : Type} [PyE α] (xs : List α) (k : Nat) : dCut (encT xs) none (some (k : Int)) = some (encT (xs.take k)) := by
  rw [cut_map, HT.sIx_nat, HT.sIx_none]
  congr 2
  simp only [List.drop_zero, Nat.sub_zero]
  by_cases h : k ≤ xs.length
  · rw [Nat.min_eq_left h]
  · rw [Nat.min_eq_right (by omega), List.take_of_length_le (by omega), List.take_of_length_le (by omega)]
@[simp] theorem cut_last {α : Type} [PyE α] (xs : List α) : dCut (encT xs) (some (-1)) none = some (encT (xs.drop (xs.length - 1))) := by
  rw [cut_map, sIx_neg1, HT.sIx_none]
  congr 2
  rw [List.take_of_length_le (by simp)]
@[simp] theorem cut_init {α : Type} [PyE α] (xs : List α) : dCut (encT xs) none (some (-1)) = some (encT xs.dropLast) := by
  rw [cut_map, sIx_neg1, HT.sIx_none]
  congr 2
  rw [List.drop_zero, Nat.sub_zero, List.dropLast_eq_take]
theorem ix_last {α : Type} [PyE α] {xs : List α} {x : α} (h : xs.getLast? = some x) : dIx (encT xs) (.int (-1)) = some (PyE.enc x) := by
  unfold dIx encT
  rw [List.getLast?_eq_some_iff] at h
  obtain ⟨ys, rfl⟩ := h
  rw [List.map_append]
  exact atI_last _ _
theorem ix_nat {α : Type} [PyE α] {xs : List α} {x : α} {j : Nat} (h : xs[j]? = some x) : dIx (encT xs) (.int (j : Int)) = some (PyE.enc x) := by
  unfold dIx encT
  exact atI_nat (by rw [List.getElem?_map, h]; rfl)
theorem dNe_nil {α : Type} [PyE α] [DecidableEq α] (xs : List α) : dNe (encT xs) (.tup []) = some (.bl (!decide (xs = []))) := dNe_T xs []
theorem dEq_nil {α : Type} [PyE α] [DecidableEq α] (xs : List α) : dEq (encT xs) (.tup []) = some (.bl (decide (xs = []))) := dEq_T xs []
theorem ix_lastc {α : Type} [PyE α] (xs : List α) (x : α) : dIx (encT (xs ++ [x])) (.int (-1)) = some (PyE.enc x) := ix_last (by simp)
theorem cut_lastc {α : Type} [PyE α] (xs : List α) (x : α) : dCut (encT (xs ++ [x])) (some (-1)) none = some (encT [x]) := by
  rw [cut_last]
  congr 2
  simp
theorem cut_initc {α : Type} [PyE α] (xs : List α) (x : α) : dCut (encT (xs ++ [x])) none (some (-1)) = some (encT xs) := by
  rw [cut_init, List.dropLast_concat]
/-- a loop by what holds between two turns -/
theorem forD_inv (g : GX) (b : SX) (I : Env → Int → Prop) : ∀ (ds : List D), (∀ d ∈ ds, ∀ ρ n, I ρ n → ∃ ρ1 ρ2 n2, g d ρ = some ρ1 ∧ b ρ1 n = some (.ok (.nx ρ2), n2) ∧ I ρ2 n2) → ∀ ρ n, I ρ n → ∃ ρ' n', forD g b ds ρ n = some (.ok (.nx ρ'), n') ∧ I ρ' n'
  | [], _, ρ, n, h => ⟨ρ, n, rfl, h⟩
  | d :: ds, hb, ρ, n, h => by
    obtain ⟨ρ1, ρ2, n2, h1, h2, h3⟩ := hb d List.mem_cons_self ρ n h
    obtain ⟨ρ', n', h4, h5⟩ := forD_inv g b I ds (fun x hx => hb x (List.mem_cons_of_mem _ hx)) ρ2 n2 h3
    exact ⟨ρ', n', by rw [forD_cons]; simp [h1, h2, h4], h5⟩
/-- a comprehension whose elements may draw -/
theorem compD_ex {α : Type} [PyE α] (b : D → M (Option D)) : ∀ (ds : List D) (n : Int), (∀ d ∈ ds, ∀ n, ∃ x : α, ∃ n', b d n = some (.ok (some (PyE.enc x)), n')) → ∃ xs : List α, ∃ n', compD b ds n = some (.ok (xs.map PyE.enc), n') ∧ xs.length = ds.length
  | [], n, _ => ⟨[], n, rfl, rfl⟩
  | d :: ds, n, h => by
    obtain ⟨x, n1, h1⟩ := h d List.mem_cons_self n
    obtain ⟨xs, n2, h2, h3⟩ := compD_ex b ds n1 fun y hy => h y (List.mem_cons_of_mem _ hy)
    exact ⟨x :: xs, n2, by rw [compD_cons]; simp [h1, h2], by simp [h3]⟩
theorem rngD_length (lo hi : Int) : (rngD lo hi).length = (hi - lo).toNat := by simp [rngD]
theorem dEqB_bl (a b : Bool) : dEqB (.bl a) (.bl b) = some (a == b) := by
  unfold dEqB toPy
  have s : ∀ a : Bool, SeqAt.shaped (.bool a) = true := fun a => by cases a <;> decide +kernel
  simp only [s, Bool.and_self, if_true]
  unfold PyData.eqv
  rfl
@[simp] theorem dNe_bl (a b : Bool) : dNe (.bl a) (.bl b) = some (.bl (!(a == b))) := by unfold dNe; rw [dEqB_bl]
@[simp] theorem dEq_bl (a b : Bool) : dEq (.bl a) (.bl b) = some (.bl (a == b)) := by unfold dEq; rw [dEqB_bl]
@[simp] theorem dNe_non : dNe .non .non = some (.bl false) := by
  have : dEqB .non .non = some true := by unfold dEqB toPy; decide +kernel
  unfold dNe; rw [this]; rfl
end DL
end

section
set_option Elab.async false
set_option linter.all false
set_option autoImplicit false
set_option maxRecDepth 100000
/-! evaluating what DL17 .. DL24 added -/
namespace DL
open PySem L2
@[simp] theorem eOwn2_ap (c : Nat) (fx : FX) (fa fb : EX) (ρ : Env) (n : Int) : eOwn2 c fx fa fb ρ n = M.bind (fa ρ) (fun x => M.bind (fb ρ) fun y => if isC c x && isC c y then fx [x, y] else M.opt none) n := (rfl)
@[simp] theorem e2M_ap (op : D → D → M D) (fa fb : EX) (ρ : Env) (n : Int) : e2M op fa fb ρ n = M.bind (fa ρ) (fun x => M.bind (fb ρ) fun y => M.calm (op x y)) n := (rfl)
@[simp] theorem e1M_ap (op : D → M D) (fa : EX) (ρ : Env) (n : Int) : e1M op fa ρ n = M.bind (fa ρ) (fun x => M.calm (op x)) n := (rfl)
@[simp] theorem mOwn_ap (c : Nat) (fx : FX) (x y : D) : mOwn c fx x y = if isC c x && isC c y then fx [x, y] else M.opt none := (rfl)
@[simp] theorem mOwn1_ap (c : Nat) (fx : FX) (x : D) : mOwn1 c fx x = if isC c x then fx [x] else M.opt none := (rfl)
def optK (g : Bool → Bool) (d : D) : Option D := match dBool d with | some t => some (.bl (g t)) | none => none
@[simp] theorem optK_bl (g : Bool → Bool) (b : Bool) : optK g (.bl b) = some (.bl (g b)) := (rfl)
theorem optK_eq (g : Bool → Bool) (d : D) : (dBool d).map (fun t => D.bl (g t)) = optK g d := by unfold optK; cases dBool d <;> rfl
@[simp] theorem mOwnIn_ap (c : Nat) (fx : FX) (g : Bool → Bool) (x y : D) : mOwnIn c fx g x y = if isC c y then M.bind (fx [y, x]) (fun d => M.opt (optK g d)) else M.opt none := by
  unfold mOwnIn
  simp only [optK_eq]
@[simp] theorem tOwn_ap (c : Nat) (fx : FX) (fa : EX) (ρ : Env) (n : Int) : tOwn c fx fa ρ n = M.bind (e1M (mOwn1 c fx) fa ρ) (fun d => M.opt (dBool d)) n := (rfl)
@[simp] theorem eNotT_ap (t : TX) (ρ : Env) (n : Int) : eNotT t ρ n = M.bind (t ρ) (fun b => M.pure (.bl (!b))) n := (rfl)
@[simp] theorem eBoolO_ap (t : TX) (ρ : Env) (n : Int) : eBoolO t ρ n = M.bind (t ρ) (fun b => M.pure (.bl b)) n := (rfl)
@[simp] theorem iZipD_ap (f : EXs) (ρ : Env) (n : Int) : iZipD f ρ n = M.bind (f ρ) (fun ds => M.opt (dZip ds)) n := (rfl)
@[simp] theorem sOwnN_ap (i : Nat) (f : EXs) (ρ : Env) (n : Int) : sOwnN i f ρ n = M.bind (f ρ) (fun ds => M.pure (.nx (ρ.set i (.own (.lst ds))))) n := (rfl)
def cutK (l h : Option Int) (x : D) : Option (List D) := match x with | .lst xs => some (cutD xs l h) | _ => none
@[simp] theorem cutK_lst (l h : Option Int) (xs : List D) : cutK l h (.lst xs) = some (cutD xs l h) := (rfl)
@[simp] theorem nCut_ap (f : EX) (lo hi : EO) (ρ : Env) (n : Int) : nCut f lo hi ρ n = M.bind (f ρ) (fun x => M.bind (lo ρ) fun l => M.bind (hi ρ) fun h => M.opt (cutK l h x)) n := (rfl)
@[simp] theorem nLst_ap (f : EXs) (ρ : Env) (n : Int) : nLst f ρ n = M.bind (f ρ) (fun ds => M.opt (if gz ds then some ds else none)) n := (rfl)
@[simp] theorem sFrz_ap (i : Nat) (ρ : Env) (n : Int) : sFrz i ρ n = M.bind (M.opt (frzE i ρ)) (fun ρ' => M.pure (.nx ρ')) n := (rfl)
theorem gz_of {ds : List D} (h : ds.length ≤ 16777216) : (if gz ds then some ds else none) = some ds := by
  have : mkLst ds = some (.lst ds) := mkLst_of h
  unfold mkLst at this
  split at this
  · rename_i h; rw [if_pos h]
  · cases this
end DL
end

section
set_option Elab.async false
set_option linter.all false
set_option autoImplicit false
set_option maxRecDepth 100000
/-! evaluating what DL25 .. DL31 added -/
namespace DL
open PySem L2
@[simp] theorem eIxT_ap (fa : EX) (fs : EXs) (ρ : Env) (n : Int) : eIxT fa fs ρ n = M.bind (fa ρ) (fun x => M.bind (fs ρ) fun ys => M.opt (valT x ys)) n := (rfl)
@[simp] theorem sPutT_ap (i : Nat) (fs : EXs) (fv : EX) (ρ : Env) (n : Int) : sPutT i fs fv ρ n = M.bind (fv ρ) (fun d => M.bind (M.opt (own? ρ i)) fun _ => M.bind (fs ρ) fun ys => M.bind (M.opt ((own? ρ i).bind (dPutT ys d))) fun o => M.pure (.nx (ρ.set i (.own o)))) n := (rfl)
@[simp] theorem sOwn2_ap (i j : Nat) (d e : D) (ρ : Env) (n : Int) : sOwn2 i j d e ρ n = some (.ok (.nx ((ρ.set i (.own d)).set j (.own e))), n) := (rfl)
@[simp] theorem sOwn_ap (i : Nat) (d : D) (ρ : Env) (n : Int) : sOwn i d ρ n = some (.ok (.nx (ρ.set i (.own d))), n) := (rfl)
@[simp] theorem nComp_ap (vs : List Nat) (g : GX) (it : IX) (t : TX) (f : EX) (ρ : Env) (n : Int) : nComp vs g it t f ρ n = M.bind (it ρ) (fun ds => M.bind (M.calm (compD (compB vs g t f ρ) ds)) fun ys => M.opt (if gz ys then some ys else none)) n := (rfl)
@[simp] theorem nAdd_ap (fa fb : EX) (ρ : Env) (n : Int) : nAdd fa fb ρ n = M.bind (fa ρ) (fun x => M.bind (fb ρ) fun y => M.opt (catL x y)) n := (rfl)
@[simp] theorem eIdx_ap (fa fb : EX) (ρ : Env) (n : Int) : eIdx fa fb ρ n = M.bind (fa ρ) (fun x => M.bind (M.opt (isLst x)) fun _ => M.bind (fb ρ) fun y => M.opt (dIdx x y)) n := (rfl)
@[simp] theorem isLst_lst (ds : List D) : isLst (.lst ds) = some () := (rfl)
theorem catL_of {xs ys : List D} (h : xs.length + ys.length ≤ 16777216) : catL (.lst xs) (.lst ys) = some (xs ++ ys) := by
  unfold catL
  exact gz_of (by rw [List.length_append]; exact h)
/-- what was lent comes back -/
theorem lend_of {i : Nat} {f : EX} {ρ : Env} {n n1 : Int} {d0 d : D} (h0 : own? ρ i = some d0) (h1 : dictD d0 = true) (h2 : ndBut i ρ = true) (h3 : f (ρ.set i (.val d0)) n = some (.ok d, n1)) (h4 : ndD d = true) : eLend i f ρ n = some (.ok d, n1) := by
  unfold eLend
  rw [h0]
  simp only [h1, h2, Bool.and_self, if_true, h3, h4]
theorem inP_L {α : Type} [PyE α] [DecidableEq α] (x : α) (xs : List α) : inP (PyE.enc x) (encL xs) = some (decide (x ∈ xs)) := by
  unfold inP encL
  simp only [PyE.to, PyE.toAll]
  have s : ∀ x : List α, SeqAt.shaped (.list (x.map PyE.py)) = true := fun x => by
    unfold SeqAt.shaped PyData.canLay0 PyData.depth
    have := PyE.depAll x
    rw [PyE.layAll]; simp; omega
  rw [PyE.shaped, s]
  simp only [Bool.and_self, if_true]
  congr 1
  refine bool_dec ?_
  rw [List.any_eq_true]
  constructor
  · rintro ⟨p, hp, e⟩
    obtain ⟨y, hy, rfl⟩ := List.mem_map.mp hp
    rw [PyE.eqv] at e
    rw [← e]
    exact hy
  · intro h
    exact ⟨PyE.py x, List.mem_map.mpr ⟨x, h, rfl⟩, (PyE.eqv x x).mpr rfl⟩
theorem dInD_L {α : Type} [PyE α] [DecidableEq α] (x : α) (xs : List α) : dInD (PyE.enc x) (encL xs) = some (.bl (decide (x ∈ xs))) := by unfold dInD; rw [inP_L]
theorem dNiD_L {α : Type} [PyE α] [DecidableEq α] (x : α) (xs : List α) : dNiD (PyE.enc x) (encL xs) = some (.bl (!decide (x ∈ xs))) := by unfold dNiD; rw [inP_L]
end DL
end

section
set_option Elab.async false
set_option linter.all false
set_option autoImplicit false
set_option maxRecDepth 100000
/-! evaluating what DL32 added; loops -/
namespace DL
open PySem L2
@[simp] theorem eOwnIx_ap (i : Nat) (fk : EX) (ρ : Env) (n : Int) : eOwnIx i fk ρ n = M.bind (M.opt (ownLst i ρ)) (fun _ => M.bind (fk ρ) fun k => M.opt ((own? ρ i).bind fun d => dIx d k)) n := (rfl)
@[simp] theorem sPutL_ap (i : Nat) (fk fv : EX) (ρ : Env) (n : Int) : sPutL i fk fv ρ n = M.bind (fv ρ) (fun d => M.bind (M.opt (ownLst i ρ)) fun _ => M.bind (fk ρ) fun k => M.bind (M.opt ((own? ρ i).bind (uSet k d))) fun o => M.pure (.nx (ρ.set i (.own o)))) n := (rfl)
@[simp] theorem sExtM_ap (i : Nat) (f : EX) (ρ : Env) (n : Int) : sExtM i f ρ n = M.bind (M.opt (ownLst i ρ)) (fun _ => sUp i uExt f ρ) n := (rfl)
@[simp] theorem sExt_ap (i : Nat) (f : EX) (ρ : Env) (n : Int) : sExt i f ρ n = M.bind (M.opt (ownLst i ρ)) (fun _ => sUp i uExt f ρ) n := (rfl)
@[simp] theorem sBk_ap (ρ : Env) (n : Int) : sBk ρ n = some (.ok (.bk ρ), n) := (rfl)
theorem uSet_ok {k : Nat} {d : D} {ds : List D} (h : k < ds.length) : uSet (.int (k : Int)) d (.lst ds) = some (.lst (ds.set k d)) := by
  unfold uSet
  have : ixN ds.length (k : Int) = some k := by
    unfold ixN
    rw [if_pos (by omega), if_pos (by omega), Int.toNat_natCast]
  simp only [this]
theorem uExt_ok {xs ys : List D} (h : xs.length + ys.length ≤ 16777216) : uExt (.lst ys) (.lst xs) = some (.lst (xs ++ ys)) := by
  unfold uExt
  rw [szl]
  exact if_pos h
theorem dMulL_ok {xs : List D} {k : Nat} (h : k ≤ 1000) (h2 : xs.length ≤ 1000) : dMulL (.lst xs) (.int (k : Int)) = some (.lst (pw xs k)) := by
  have a : xs.length * k ≤ 1000 * 1000 := Nat.mul_le_mul h2 h
  exact (if_pos (by simp only [Int.toNat_natCast, Bool.and_eq_true, decide_eq_true_eq]; exact ⟨⟨by omega, by omega⟩, by omega⟩)).trans (by rw [Int.toNat_natCast]; rfl)
theorem pw_map {α β : Type} (f : α → β) (xs : List α) (k : Nat) : pw (xs.map f) k = (pw xs k).map f := rep_map f xs k
theorem dMulL_L {α : Type} [PyE α] {xs : List α} {k : Nat} (h : k ≤ 1000) (h2 : xs.length ≤ 1000) : dMulL (encL xs) (.int (k : Int)) = some (encL (pw xs k)) := by
  unfold encL
  rw [dMulL_ok h (by rw [List.length_map]; exact h2), pw_map]
theorem ixL_nat {xs : List D} {x : D} {j : Nat} (h : xs[j]? = some x) : dIx (.lst xs) (.int (j : Int)) = some x := atI_nat h
theorem ixAL_nat {xs : List D} {x : D} {j : Nat} (h : xs[j]? = some x) : dIxA (.lst xs) (.int (j : Int)) = some x := atI_nat h
/-- a loop that checks: through, or out with False at the first that fails -/
theorem forD_chk (g : GX) (b : SX) (P : D → Bool) (I : Env → Prop) (n : Int) : ∀ (ds : List D), (∀ d ∈ ds, ∀ ρ, I ρ → ∃ ρ1, g d ρ = some ρ1 ∧ (P d = true → ∃ ρ2, b ρ1 n = some (.ok (.nx ρ2), n) ∧ I ρ2) ∧ (P d = false → b ρ1 n = some (.ok (.ret (.bl false)), n))) →
    ∀ ρ, I ρ → (ds.all P = true → ∃ ρ', forD g b ds ρ n = some (.ok (.nx ρ'), n) ∧ I ρ') ∧ (ds.all P = false → forD g b ds ρ n = some (.ok (.ret (.bl false)), n))
  | [], _, ρ, h => ⟨fun _ => ⟨ρ, rfl, h⟩, fun e => by simp at e⟩
  | d :: ds, hb, ρ, h => by
    obtain ⟨ρ1, h1, h2, h3⟩ := hb d List.mem_cons_self ρ h
    rw [forD_cons]
    cases hp : P d with
    | true =>
      obtain ⟨ρ2, h4, h5⟩ := h2 hp
      obtain ⟨k1, k2⟩ := forD_chk g b P I n ds (fun x hx => hb x (List.mem_cons_of_mem _ hx)) ρ2 h5
      rw [List.all_cons, hp, Bool.true_and]
      refine ⟨fun e => ?_, fun e => ?_⟩
      · obtain ⟨ρ', h6, h7⟩ := k1 e
        exact ⟨ρ', by simp [h1, h4, h6], h7⟩
      · simp [h1, h4, k2 e]
    | false =>
      rw [List.all_cons, hp, Bool.false_and]
      exact ⟨(fun e => by cases e), (fun _ => by simp [h1, h3 hp])⟩
end DL
end

section
set_option Elab.async false
set_option linter.all false
set_option autoImplicit false
set_option maxRecDepth 100000
namespace K47
open DL PySem L2 P_k47_whole_charts PyProof.Rows
inductive Kd where
  | k | p | sl | yo | k2tog | ssk | kfb | m1l | c2f | ktbl | p2tog | bo
  deriving DecidableEq
inductive Yn where
  | a | b | z
  deriving DecidableEq
def Kd.s : Kd → Str
  | .k => "k" | .p => "p" | .sl => "sl" | .yo => "yo" | .k2tog => "k2tog" | .ssk => "ssk" | .kfb => "kfb" | .m1l => "m1l" | .c2f => "c2f" | .ktbl => "ktbl" | .p2tog => "p2tog" | .bo => "bo"
def Kd.t : Kd → Nat
  | .k => 1 | .p => 1 | .sl => 1 | .yo => 0 | .k2tog => 2 | .ssk => 2 | .kfb => 1 | .m1l => 0 | .c2f => 2 | .ktbl => 1 | .p2tog => 2 | .bo => 1
def Yn.s : Yn → Str
  | .a => "a" | .b => "b" | .z => "z"
theorem Kd.inj {x y : Kd} : x.s = y.s → x = y := by
  cases x <;> cases y <;> first | (intro _; rfl) | (intro h; exact absurd h (by decide +kernel))
theorem Yn.inj {x y : Yn} : x.s = y.s → x = y := by
  cases x <;> cases y <;> first | (intro _; rfl) | (intro h; exact absurd h (by decide +kernel))
structure Cell where
  k : Kd
  y : Yn
  deriving DecidableEq
theorem kd_ok (x : Kd) : PyData.strOk x.s = true := by cases x <;> decide +kernel
theorem yn_ok (x : Yn) : PyData.strOk x.s = true := by cases x <;> decide +kernel
instance : PyE Cell where
  enc := fun c => .tup [.str c.k.s, .str c.y.s]
  py := fun c => .tuple [.str c.k.s, .str c.y.s]
  to := fun c => by simp [toPy, toPys]
  lay := fun c => by simp [PyData.canLay0, PyData.canLayAll0, kd_ok, yn_ok]
  dep := fun c => by simp [PyData.depth, PyData.depthAll]
  eqv := fun x y => by
    obtain ⟨i, a⟩ := x
    obtain ⟨j, b⟩ := y
    simp only [PyData.eqv, PyData.eqvAll, Bool.and_eq_true, beq_iff_eq, Cell.mk.injEq, Bool.true_and, and_true]
    exact ⟨fun ⟨h1, h2⟩ => ⟨Kd.inj h1, Yn.inj h2⟩, fun ⟨h1, h2⟩ => by rw [h1, h2]; exact ⟨rfl, rfl⟩⟩
abbrev Word := List Cell
theorem dep_cell (c : Cell) : (PyE.py c : PyData).depth ≤ 1 := by
  show (PyData.tuple [.str c.k.s, .str c.y.s]).depth ≤ 1
  simp [PyData.depth, PyData.depthAll]
theorem dep_all {α : Type} [PyE α] {k : Nat} (h : ∀ x : α, (PyE.py x : PyData).depth ≤ k) : ∀ xs : List α, PyData.depthAll (xs.map PyE.py) ≤ k
  | [] => by simp [PyData.depthAll]
  | x :: xs => by
    rw [List.map_cons]
    unfold PyData.depthAll
    have := h x
    have := dep_all h xs
    omega
instance : PyE Word where
  enc := encT
  py := fun w => .tuple (w.map PyE.py)
  to := fun w => by
    unfold encT toPy
    rw [PyE.toAll]
  lay := fun w => by
    unfold PyData.canLay0
    exact PyE.layAll w
  dep := fun w => by
    unfold PyData.depth
    have := dep_all dep_cell w
    omega
  eqv := fun x y => by
    unfold PyData.eqv
    exact PyE.eqvAll x y
theorem dep_word (w : Word) : (PyE.py w : PyData).depth ≤ 2 := by
  show (PyData.tuple (w.map PyE.py)).depth ≤ 2
  unfold PyData.depth
  have := dep_all dep_cell w
  omega
/-- a row: before, group, after -/
abbrev Row := List Word
instance : PyE Row where
  enc := encT
  py := fun w => .tuple (w.map PyE.py)
  to := fun w => by
    unfold encT toPy
    rw [PyE.toAll]
  lay := fun w => by
    unfold PyData.canLay0
    exact PyE.layAll w
  dep := fun w => by
    unfold PyData.depth
    have := dep_all dep_word w
    omega
  eqv := fun x y => by
    unfold PyData.eqv
    exact PyE.eqvAll x y
def rw3 (b g a : Word) : Row := [b, g, a]
theorem enc_rw3 (b g a : Word) : PyE.enc (rw3 b g a) = D.tup [encT b, encT g, encT a] := rfl
end K47
end

section
set_option Elab.async false
set_option linter.all false
set_option autoImplicit false
set_option maxRecDepth 100000
namespace K47
open DL PySem L2 P_k47_whole_charts PyProof.Rows
/-! ### lists of plain results -/
theorem seq_go {g h : SX} {ρ ρ1 : DL.Env} {n n1 : Int} {r : Option (Except Xc Out × Int)} (a : g ρ n = some (.ok (.nx ρ1), n1)) (b : h ρ1 n1 = r) : sSeq g h ρ n = r := by
  rw [sSeq_ap, bind_ap, a, bindR_ok, seqK_nx, b]
theorem comp_map {α : Type} (h : α → D) (b : D → M (Option D)) (g : α → Option D) (n : Int) : ∀ w : List α, (∀ x ∈ w, b (h x) n = some (.ok (g x), n)) → compD b (w.map h) n = some (.ok (w.filterMap g), n)
  | [], _ => rfl
  | x :: w, k => by
    have h1 := k x List.mem_cons_self
    have h2 := comp_map h b g n w fun y hy => k y (List.mem_cons_of_mem _ hy)
    rw [List.map_cons, compD_cons, bind_ap, h1, bindR_ok, bind_ap, h2, bindR_ok, pure_ap]
    cases e : g x with
    | none => rw [List.filterMap_cons_none e]; rfl
    | some y => rw [List.filterMap_cons_some e]; rfl
theorem comp_all {α : Type} (h : α → D) (b : D → M (Option D)) (g : α → D) (n : Int) (w : List α) (k : ∀ x ∈ w, b (h x) n = some (.ok (some (g x)), n)) : compD b (w.map h) n = some (.ok (w.map g), n) := by
  rw [comp_map h b (fun x => some (g x)) n w k, List.filterMap_eq_map']
theorem comp_filter {α : Type} (h : α → D) (b : D → M (Option D)) (p : α → Bool) (n : Int) (w : List α) (k : ∀ x ∈ w, b (h x) n = some (.ok (if p x then some (h x) else none), n)) : compD b (w.map h) n = some (.ok ((w.filter p).map h), n) := by
  rw [comp_map h b (fun x => if p x then some (h x) else none) n w k]
  congr 3
  clear k
  induction w with
  | nil => rfl
  | cons x w ih =>
    rw [List.filterMap_cons, List.filter_cons]
    cases p x <;> simp [ih]
theorem bls_map {α : Type} (g : α → Bool) : ∀ w : List α, dBls (w.map fun x => .bl (g x)) = some (w.map g)
  | [] => rfl
  | x :: w => by
    rw [List.map_cons, List.map_cons]
    unfold dBls
    rw [bls_map g w]
theorem all_map {α : Type} (g : α → Bool) (w : List α) : dAll [.lst (w.map fun x => .bl (g x))] = some (.bl (w.all g)) := by
  unfold dAll
  simp only [bls_map]
  simp [List.all_map]
theorem ints_nat : ∀ ns : List Nat, dInts (ns.map fun k : Nat => D.int k) = some (ns.map fun k : Nat => (k : Int))
  | [] => rfl
  | k :: r => by
    rw [List.map_cons, List.map_cons]
    show (match dInts (r.map fun k : Nat => D.int k) with | some ns => some ((k : Int) :: ns) | none => none) = _
    rw [ints_nat r]
theorem sum_cast : ∀ ns : List Nat, (ns.map fun k : Nat => (k : Int)).sum = (ns.sum : Nat)
  | [] => rfl
  | k :: r => by
    rw [List.map_cons, List.sum_cons, List.sum_cons, sum_cast r]
    omega
theorem sum_nat (ns : List Nat) : dSum [.lst (ns.map fun k : Nat => D.int k)] = some (.int (ns.sum : Nat)) := by
  unfold dSum
  simp only [ints_nat]
  rw [← sum_cast]
/-! ### cells, words -/
theorem kind_ok (k : Kd) (n : Int) : f_is_kind [.str k.s] n = some (.ok (.bl true), n) := by cases k <;> kernel_rfl
theorem yarn_ok (y : Yn) (n : Int) : f_is_yarn [.str y.s] n = some (.ok (.bl true), n) := by cases y <;> kernel_rfl
theorem cell_ok (c : Cell) (n : Int) : f_is_cell [PyE.enc c] n = some (.ok (.bl true), n) := by
  have h1 := kind_ok c.k n
  have h2 := yarn_ok c.y n
  have e : (PyE.enc c : D) = .tup [.str c.k.s, .str c.y.s] := rfl
  rw [e]
  have i1 : dIsi "tuple" (.tup [.str c.k.s, .str c.y.s]) = some (.bl true) := rfl
  have x0 : dIx (.tup [.str c.k.s, .str c.y.s]) (.int 0) = some (.str c.k.s) := rfl
  have x1 : dIx (.tup [.str c.k.s, .str c.y.s]) (.int 1) = some (.str c.y.s) := rfl
  have l : dLen [.tup [.str c.k.s, .str c.y.s]] = some (.int 2) := rfl
  generalize (D.tup [.str c.k.s, .str c.y.s]) = Z at *
  simp only [f_is_cell, g_is_cell]
  simp [h1, h2, i1, x0, x1, l]
theorem z_small {α : Type} (xs : List α) (f : α → D) (h : xs.length ≤ 16777216) : (xs.map f).length ≤ 16777216 := by rw [List.length_map]; exact h
theorem word_is (w : Word) (hl : w.length ≤ 1000) (n : Int) : f_is_word [encT w] n = some (.ok (.bl true), n) := by
  have c := comp_all (PyE.enc : Cell → D) (compB [1] (gV 1) tYesD (eCall (f_is_cell) (eCons (eVar 1) eNil)) [.val (encT w), .no]) (fun _ => .bl true) n w fun x _ => by
    have h := cell_ok x n
    generalize (PyE.enc x : D) = Z at *
    simp [h]
  have a := all_map (fun _ : Cell => true) w
  have at' : w.all (fun _ => true) = true := by rw [List.all_eq_true]; exact fun _ _ => rfl
  rw [at'] at a
  have z := z_small w (fun _ => D.bl true) (by omega)
  have i1 : dIsi "tuple" (encT w) = some (.bl true) := rfl
  have it : dItems (encT w) = some (w.map PyE.enc) := rfl
  generalize (w.map fun _ => D.bl true) = B at *
  generalize (w.map (PyE.enc : Cell → D)) = A at *
  generalize encT w = Z at *
  simp only [f_is_word, g_is_word]
  simp [i1, it, c, mkLst_of z, a]
def T (w : Word) : Nat := (w.map fun c => c.k.t).sum
theorem tk_ok (k : Kd) : (dIxK tb_KINDS (.str k.s)).bind (fun x => dIx x (.int 0)) = some (.int k.t) := by cases k <;> kernel_rfl
theorem takes_ok (w : Word) (hl : w.length ≤ 1000) (n : Int) : f_takes [encT w] n = some (.ok (.int (T w)), n) := by
  have c := comp_all (PyE.enc : Cell → D) (compB [1, 2] (gT (gsC (gV 1) (gsC (gV 2) gsN))) tYesD (e2 dIx (e1 (dIxK tb_KINDS) (eVar 1)) (eC (.int 0))) [.val (encT w), .no, .no]) (fun c => .int (c.k.t : Nat)) n w fun x _ => by
    have h := tk_ok x.k
    have e : (PyE.enc x : D) = .tup [.str x.k.s, .str x.y.s] := rfl
    rw [e]
    cases hk : dIxK tb_KINDS (.str x.k.s) with
    | none => rw [hk] at h; cases h
    | some d =>
      rw [hk, Option.bind_some] at h
      simp [hk, h]
  have a := sum_nat (w.map fun c => c.k.t)
  rw [List.map_map] at a
  have z := z_small w (fun c : Cell => D.int (c.k.t : Nat)) (by omega)
  have it : dItems (encT w) = some (w.map PyE.enc) := rfl
  have a : dSum [.lst (w.map fun c : Cell => D.int (c.k.t : Nat))] = some (.int (T w)) := a
  generalize (w.map fun c : Cell => D.int (c.k.t : Nat)) = B at *
  generalize (w.map (PyE.enc : Cell → D)) = A at *
  generalize encT w = Z at *
  simp only [f_takes, g_takes]
  simp [it, c, mkLst_of z, a]
/-! ### rows -/
def rD (b g a : Word) : D := .tup [encT b, encT g, encT a]
theorem rD_enc (b g a : Word) : rD b g a = PyE.enc (rw3 b g a) := rfl
def rowB (b g a : Word) : Bool := decide (b.length ≤ 60) && decide (g.length ≤ 30) && decide (a.length ≤ 60) && (if g = [] then decide (a = []) else decide (0 < T g))
theorem is_row_ok (b g a : Word) (hb : b.length ≤ 1000) (hg : g.length ≤ 1000) (ha : a.length ≤ 1000) (n : Int) : f_is_row [rD b g a] n = some (.ok (.bl (rowB b g a)), n) := by
  have h1 := word_is b hb n
  have h2 := word_is g hg n
  have h3 := word_is a ha n
  have t := takes_ok g hg n
  have l1 := dLen_T b
  have l2 := dLen_T g
  have l3 := dLen_T a
  have n1 := dNe_T g ([] : Word)
  have n2 := dEq_T a ([] : Word)
  have e0 : encT ([] : Word) = .tup [] := rfl
  rw [e0] at n1 n2
  unfold rowB rD
  generalize encT b = B at *
  generalize encT g = G at *
  generalize encT a = A at *
  have i1 : dIsi "tuple" (.tup [B, G, A]) = some (.bl true) := rfl
  have l : dLen [.tup [B, G, A]] = some (.int 3) := rfl
  have it : dItems (.tup [B, G, A]) = some [B, G, A] := rfl
  have al : dAll [.lst [.bl true, .bl true, .bl true]] = some (.bl true) := rfl
  simp only [f_is_row, g_is_row]
  by_cases c1 : (60 : Int) < b.length
  · have c1' : ¬ b.length ≤ 60 := by omega
    simp [i1, l, it, al, h1, h2, h3, compD_cons, compD_nil, l1, c1, c1']
  · have c1' : b.length ≤ 60 := by omega
    by_cases c2 : (30 : Int) < g.length
    · have c2' : ¬ g.length ≤ 30 := by omega
      simp [i1, l, it, al, h1, h2, h3, compD_cons, compD_nil, l1, l2, c1, c1', c2, c2']
    · have c2' : g.length ≤ 30 := by omega
      by_cases c3 : (60 : Int) < a.length
      · have c3' : ¬ a.length ≤ 60 := by omega
        simp [i1, l, it, al, h1, h2, h3, compD_cons, compD_nil, l1, l2, l3, c1, c1', c2, c2', c3, c3']
      · have c3' : a.length ≤ 60 := by omega
        by_cases hg0 : g = []
        · simp [i1, l, it, al, h1, h2, h3, compD_cons, compD_nil, l1, l2, l3, c1, c1', c2, c2', c3, c3', n1, n2, hg0]
        · simp [i1, l, it, al, h1, h2, h3, compD_cons, compD_nil, l1, l2, l3, c1, c1', c2, c2', c3, c3', n1, n2, hg0, t]
end K47
end

section
set_option Elab.async false
set_option linter.all false
set_option autoImplicit false
set_option maxRecDepth 100000
namespace K47
open DL PySem L2 P_k47_whole_charts PyProof.Rows
section
variable {α : Type}
def cyc (w : List α) (i : Nat) : Option α := w[i % w.length]?
theorem cyc_lt {w : List α} {i : Nat} (h : i < w.length) : cyc w i = w[i]? := by unfold cyc; rw [Nat.mod_eq_of_lt h]
theorem cyc_per (w : List α) (i : Nat) : cyc w (i + w.length) = cyc w i := by unfold cyc; rw [Nat.add_mod_right]
theorem per_mul {f : Nat → Option α} {p : Nat} (h : ∀ i, f (i + p) = f i) : ∀ k i, f (i + k * p) = f i
  | 0, i => by simp
  | k + 1, i => by rw [Nat.succ_mul, ← Nat.add_assoc, h, per_mul h k]
theorem pw_get (w : List α) : ∀ (k i : Nat), (pw w k)[i]? = if i < k * w.length then cyc w i else none
  | 0, i => by simp [pw_zero]
  | k + 1, i => by
    rw [pw_succ]
    by_cases h : i < w.length
    · rw [List.getElem?_append_left h, if_pos (by rw [Nat.succ_mul]; omega), cyc_lt h]
    · rw [List.getElem?_append_right (by omega), pw_get w k]
      have e : cyc w (i - w.length) = cyc w i := by
        have := cyc_per w (i - w.length)
        rw [Nat.sub_add_cancel (by omega)] at this
        exact this.symm
      rw [e]
      have : (i - w.length < k * w.length) ↔ (i < (k + 1) * w.length) := by rw [Nat.succ_mul]; omega
      simp only [this]
end
theorem ixT' {α : Type} [PyE α] {xs : List α} {x : α} {j : Nat} (h : xs[j]? = some x) : dIxA (encT xs) (.int (j : Int)) = some (PyE.enc x) := by
  show atI (xs.map PyE.enc) (j : Int) = _
  exact atI_nat (by rw [List.getElem?_map, h]; rfl)
theorem uApp_ok (d : D) (ds : List D) (h : ds.length < 16777216) : uApp d (.lst ds) = some (.lst (ds ++ [d])) := by
  show (if ds.length < sizeLine then some (D.lst (ds ++ [d])) else none) = _
  rw [if_pos (show ds.length < sizeLine from h)]
theorem ix0 {α : Type} [PyE α] (x : α) (xs : List α) : dIx (encT (x :: xs)) (.int 0) = some (PyE.enc x) := by
  show atI ((x :: xs).map PyE.enc) ((0 : Nat) : Int) = _
  exact atI_nat rfl
theorem cut1 {α : Type} [PyE α] (xs : List α) : dCut (encT xs) (some 1) none = some (encT (xs.drop 1)) := cut_from xs 1
theorem cut1' {α : Type} [PyE α] (xs : List α) : dCut (encT xs) none (some 1) = some (encT (xs.take 1)) := cut_to xs 1
theorem whileD_step {t : TX} {b : SX} {m : Nat} {ρ ρ1 : DL.Env} {n n1 : Int} (e1 : t ρ n = some (.ok true, n)) (e2 : b ρ n = some (.ok (.nx ρ1), n1)) : whileD t b (m + 1) ρ n = whileD t b m ρ1 n1 := by
  rw [whileD_s, bind_ap, e1, bindR_ok, selB_true, bind_ap, e2, bindR_ok, turnK_nx]
theorem whileD_stop {t : TX} {b : SX} {m : Nat} {ρ : DL.Env} {n : Int} (e1 : t ρ n = some (.ok false, n)) : whileD t b (m + 1) ρ n = some (.ok (.nx ρ), n) := by
  rw [whileD_s, bind_ap, e1, bindR_ok, selB_false, pure_ap]
theorem T_app (a b : Word) : K47.T (a ++ b) = K47.T a + K47.T b := by unfold K47.T; rw [List.map_append, List.sum_append]
theorem cut_mid {α : Type} [PyE α] (xs : List α) (i j : Nat) : dCut (encT xs) (some (i : Int)) (some (j : Int)) = some (encT ((xs.take j).drop i)) := by
  rw [cut_map, HT.sIx_nat, HT.sIx_nat]
  congr 2
  rw [List.drop_take]
  apply List.ext_getElem?
  intro t
  rw [List.getElem?_take, List.getElem?_take, List.getElem?_drop, List.getElem?_drop]
  by_cases h : i ≤ xs.length
  · rw [Nat.min_eq_left h]
    by_cases h2 : j ≤ xs.length
    · rw [Nat.min_eq_left h2]
    · rw [Nat.min_eq_right (by omega)]
      by_cases h3 : i + t < xs.length
      · rw [if_pos (by omega), if_pos (by omega)]
      · rw [List.getElem?_eq_none (by omega)]; split <;> split <;> rfl
  · rw [Nat.min_eq_right (Nat.le_of_not_le h), List.getElem?_eq_none (by omega), List.getElem?_eq_none (by omega)]; split <;> split <;> rfl
theorem rng_nat (k : Nat) : rngD 0 (k : Int) = (List.range k).map fun i : Nat => D.int i := by
  unfold rngD
  simp
theorem rng_nat2 (a b : Nat) : rngD (a : Int) (b : Int) = (List.range (b - a)).map fun i : Nat => D.int ((a + i : Nat) : Int) := by
  unfold rngD
  have : ((b : Int) - (a : Int)).toNat = b - a := by omega
  rw [this]
  apply List.map_congr_left
  intro i _
  congr 1
theorem rng1 (k : Nat) (h : k ≤ 1000000) : dRng1 [.int (k : Int)] = some ((List.range k).map fun i : Nat => D.int i) := by
  rw [dRng1_ok (by omega) (by omega), rng_nat]
theorem pw_le (g : Word) (t : Nat) (ht : t ≤ 3) (hg : g.length ≤ 1000) : (pw g t).length ≤ 3000 := by
  rw [pw_length]
  exact Nat.mul_le_mul ht hg
theorem cutL {α : Type} [PyE α] (xs : List α) (lo hi : Option Int) : dCut (encL xs) lo hi = some (encL ((xs.drop (HT.sIx xs.length 0 lo)).take (HT.sIx xs.length xs.length hi - HT.sIx xs.length 0 lo))) := by
  unfold dCut encL DL.cutD
  simp only [List.length_map, List.map_take, List.map_drop]
theorem cutL_from {α : Type} [PyE α] (xs : List α) (k : Nat) : dCut (encL xs) (some (k : Int)) none = some (encL (xs.drop k)) := by
  rw [cutL, HT.sIx_nat, HT.sIx_none]
  congr 2
  by_cases h : k ≤ xs.length
  · rw [Nat.min_eq_left h, List.take_of_length_le (by simp)]
  · rw [Nat.min_eq_right (by omega), List.drop_eq_nil_of_le (by omega), List.drop_eq_nil_of_le (by omega)]; simp

end K47
end

section
set_option Elab.async false
set_option linter.all false
set_option autoImplicit false
set_option maxRecDepth 100000
namespace K47
open DL PySem L2 P_k47_whole_charts PyProof.Rows
/-! ### the least cost of a stretch, with no program in sight -/
def minL (xs : List Int) : Int := match minI xs with
  | some m => m
  | none => 0
/-- word[low:low + m] -/
def st (w : Word) (low m : Nat) : Word := (w.take (low + m)).drop low
def perB (x : Word) (p : Nat) : Bool := decide (x.length % p = 0) && decide (x.drop p = x.take (x.length - p))
def pers (x : Word) : List Nat := ((List.range (x.length - 1)).map (1 + ·)).filter (perB x)
def rp2 (p : Nat) : Int := if p = 1 then 1 else 2
/-- the prices of the ways to write word[low:low + m], c: those of shorter stretches -/
def prices (w : Word) (c : Nat → Nat → Int) (m low : Nat) : List Int :=
  ((List.range (m - 1)).map fun i => c (i + 1) low + c (m - (i + 1)) (low + (i + 1))) ++ (if m = 1 then [1] else []) ++ (pers (st w low m)).map fun p => c p low + rp2 p
def CF (w : Word) : Nat → Nat → Nat → Int
  | 0, _, _ => 0
  | j + 1, m, low => if m = j + 1 then minL (prices w (CF w j) m low) else CF w j m low
def C (w : Word) (m low : Nat) : Int := CF w m m low
theorem CF_low (w : Word) (m low : Nat) : ∀ j, m ≤ j → CF w j m low = CF w m m low
  | 0, h => by
    have : m = 0 := by omega
    rw [this]
  | j + 1, h => by
    by_cases e : m = j + 1
    · rw [e]
    · show (if m = j + 1 then _ else CF w j m low) = _
      rw [if_neg e]
      exact CF_low w m low j (by omega)
theorem pers_lt (x : Word) : ∀ p ∈ pers x, 1 ≤ p ∧ p < x.length := fun p hp => by
  unfold pers at hp
  have := (List.mem_filter.mp hp).1
  obtain ⟨i, hi, rfl⟩ := List.mem_map.mp this
  rw [List.mem_range] at hi
  omega
theorem st_len (w : Word) (low m : Nat) (h : low + m ≤ w.length) : (st w low m).length = m := by
  unfold st
  rw [List.length_drop, List.length_take]
  omega
theorem prices_eq (w : Word) (j m low : Nat) (hj : m ≤ j + 1) (h : low + m ≤ w.length) : prices w (CF w j) m low = prices w (C w) m low := by
  unfold prices
  congr 1
  · congr 1
    refine List.map_congr_left fun i hi => ?_
    rw [List.mem_range] at hi
    unfold C
    rw [CF_low w (i + 1) low j (by omega), CF_low w (m - (i + 1)) (low + (i + 1)) j (by omega)]
  · refine List.map_congr_left fun p hp => ?_
    have := pers_lt _ p hp
    rw [st_len w low m h] at this
    unfold C
    rw [CF_low w p low j (by omega)]
theorem C_eq (w : Word) (m low : Nat) (hm : 1 ≤ m) (h : low + m ≤ w.length) : C w m low = minL (prices w (C w) m low) := by
  obtain ⟨j, rfl⟩ : ∃ j, m = j + 1 := ⟨m - 1, by omega⟩
  unfold C
  show (if j + 1 = j + 1 then minL (prices w (CF w j) (j + 1) low) else CF w j (j + 1) low) = _
  rw [if_pos rfl]
  rw [prices_eq w j (j + 1) low (by omega) h]
  rfl
def K (w : Word) : Int := if w = [] then 0 else C w w.length 0
/-- the two ways to tell a repeat -/
theorem per_iff (x : Word) (p : Nat) (hp : 1 ≤ p) (hd : x.length % p = 0) (hlt : p < x.length) : (x.drop p = x.take (x.length - p)) ↔ pw (x.take p) (x.length / p) = x := by
  have lt : (x.take p).length = p := by rw [List.length_take]; omega
  have ln : x.length / p * p = x.length := Nat.div_mul_cancel (Nat.dvd_of_mod_eq_zero hd)
  have get : ∀ i, i < x.length → (pw (x.take p) (x.length / p))[i]? = x[i % p]? := fun i hi => by
    rw [pw_get, lt, ln, if_pos hi]
    unfold cyc
    rw [lt, List.getElem?_take, if_pos (Nat.mod_lt _ (by omega))]
  constructor
  · intro h
    have step : ∀ i, i + p < x.length → x[i + p]? = x[i]? := fun i hi => by
      have := congrArg (fun l : Word => l[i]?) h
      simp only [List.getElem?_drop, List.getElem?_take] at this
      rw [if_pos (by omega), Nat.add_comm p i] at this
      exact this
    have all : ∀ q i, i / p = q → i < x.length → x[i]? = x[i % p]? := by
      intro q
      induction q with
      | zero =>
        intro i hi _
        have : i < p := by
          rcases Nat.lt_or_ge i p with c | c
          · exact c
          · have := Nat.div_pos c (by omega : 0 < p)
            omega
        rw [Nat.mod_eq_of_lt this]
      | succ q ih =>
        intro i hi hl
        have hip : p ≤ i := by
          rcases Nat.lt_or_ge i p with c | c
          · rw [Nat.div_eq_of_lt c] at hi; omega
          · exact c
        have e : i = (i - p) + p := by omega
        have d : (i - p) / p = q := by
          have := Nat.add_div_right (i - p) (by omega : 0 < p)
          rw [← e] at this
          omega
        have := ih (i - p) d (by omega)
        rw [e, step (i - p) (by omega), this, Nat.add_mod_right]
    apply List.ext_getElem?
    intro i
    rcases Nat.lt_or_ge i x.length with c | c
    · rw [get i c, ← all _ i rfl c]
    · rw [List.getElem?_eq_none (by rw [pw_length, lt, ln]; exact c), List.getElem?_eq_none c]
  · intro h
    have all : ∀ i, i < x.length → x[i]? = x[i % p]? := fun i hi => by
      rw [← get i hi, h]
    apply List.ext_getElem?
    intro i
    rw [List.getElem?_drop, List.getElem?_take]
    split
    · rename_i hi
      rw [Nat.add_comm p i, all (i + p) (by omega), Nat.add_mod_right, ← all i (by omega)]
    · rename_i hi
      exact List.getElem?_eq_none (by omega)
/-! ### dicts with pairs of numbers as keys -/
def k2 (a b : Nat) : List Key := [.inl (a : Int), .inl (b : Int)]
theorem k2_inj {a b c d : Nat} (h : k2 a b = k2 c d) : a = c ∧ b = d := by
  unfold k2 at h
  simp at h
  omega
theorem valD_snoc {κ : Type} [DecidableEq κ] {k k' : κ} {d : D} : ∀ {ks : List κ} {ds : List D}, ks.length = ds.length → (∀ x ∈ ks, x ≠ k) → valD (ks ++ [k]) (ds ++ [d]) k' = if k' = k then some d else valD ks ds k'
  | [], [], _, _ => by
    show (if k = k' then some d else none) = (if k' = k then some d else none)
    by_cases h : k = k'
    · rw [if_pos h, if_pos h.symm]
    · rw [if_neg h, if_neg fun e => h e.symm]
  | [], _ :: _, l, _ => by cases l
  | _ :: _, [], l, _ => by cases l
  | x :: ks, e :: ds, l, h => by
    have ih := valD_snoc (k := k) (k' := k') (d := d) (ks := ks) (ds := ds) (by simpa using l) fun y hy => h y (List.mem_cons_of_mem _ hy)
    show (if x = k' then some e else valD (ks ++ [k]) (ds ++ [d]) k') = if k' = k then some d else (if x = k' then some e else valD ks ds k')
    rw [ih]
    by_cases hx : x = k'
    · rw [if_pos hx, if_pos hx, if_neg]
      rw [← hx]
      exact h x List.mem_cons_self
    · rw [if_neg hx, if_neg hx]
theorem valD_zipw {κ : Type} [DecidableEq κ] {k k' : κ} {d : D} : ∀ {ks : List κ} {ds : List D}, ks.length = ds.length → valD ks (List.zipWith (fun x e => if x = k then d else e) ks ds) k' = if k' = k then (if k ∈ ks then some d else none) else valD ks ds k'
  | [], [], _ => by
    show none = _
    split <;> simp [valD]
  | [], _ :: _, l => by cases l
  | _ :: _, [], l => by cases l
  | x :: ks, e :: ds, l => by
    have ih := valD_zipw (k := k) (k' := k') (d := d) (ks := ks) (ds := ds) (by simpa using l)
    rw [List.zipWith_cons_cons]
    show (if x = k' then some (if x = k then d else e) else valD ks (List.zipWith (fun x e => if x = k then d else e) ks ds) k') = _
    rw [ih]
    show _ = if k' = k then _ else (if x = k' then some e else valD ks ds k')
    by_cases hk : k' = k
    · subst hk
      rw [if_pos rfl, if_pos rfl]
      by_cases hx : x = k'
      · rw [if_pos hx, if_pos hx, if_pos (by rw [hx]; exact List.mem_cons_self)]
      · rw [if_neg hx]
        by_cases hm : k' ∈ ks
        · rw [if_pos hm, if_pos (List.mem_cons_of_mem _ hm)]
        · rw [if_neg hm, if_neg fun z => (List.mem_cons.mp z).elim (fun q => hx q.symm) hm]
    · rw [if_neg hk, if_neg hk]
      by_cases hx : x = k'
      · rw [if_pos hx, if_pos hx, if_neg fun z => hk (hx ▸ z)]
      · rw [if_neg hx, if_neg hx]
theorem valD_set {κ : Type} [DecidableEq κ] {k k' : κ} {d : D} {ks : List κ} {ds : List D} (l : ks.length = ds.length) : valD (dkKs ks k) (dkDs ks ds k d) k' = if k' = k then some d else valD ks ds k' := by
  unfold dkKs dkDs
  by_cases h : (ks.any fun x => decide (x = k)) = true
  · rw [if_pos h, if_pos h, valD_zipw l]
    have hm : k ∈ ks := by
      rw [List.any_eq_true] at h
      obtain ⟨x, hx, e⟩ := h
      rw [← of_decide_eq_true e]
      exact hx
    rw [if_pos hm]
  · rw [if_neg h, if_neg h]
    refine valD_snoc l fun x hx e => h ?_
    rw [List.any_eq_true]
    exact ⟨x, hx, decide_eq_true e⟩
theorem len_set {κ : Type} [DecidableEq κ] {k : κ} {ks : List κ} : (dkKs ks k).length ≤ ks.length + 1 := by
  unfold dkKs
  split
  · omega
  · simp
theorem nd_cons (d : D) (ds : List D) : ndDs (d :: ds) = (ndD d && ndDs ds) := by rw [ndDs]
theorem nd_app : ∀ (a b : List D), ndDs (a ++ b) = (ndDs a && ndDs b)
  | [], b => by simp [ndDs]
  | x :: a, b => by
    rw [List.cons_append, nd_cons, nd_cons, nd_app a b, Bool.and_assoc]
theorem nd_zipw {κ : Type} [DecidableEq κ] {k : κ} {d : D} (hd : ndD d = true) : ∀ (ks : List κ) (ds : List D), ndDs ds = true → ndDs (List.zipWith (fun x e => if x = k then d else e) ks ds) = true
  | [], _, _ => by simp [ndDs]
  | _ :: _, [], _ => by simp [ndDs]
  | x :: ks, e :: ds, h => by
    rw [nd_cons, Bool.and_eq_true] at h
    rw [List.zipWith_cons_cons, nd_cons, nd_zipw hd ks ds h.2, Bool.and_true]
    split
    · exact hd
    · exact h.1
theorem nd_set {κ : Type} [DecidableEq κ] {k : κ} {d : D} {ks : List κ} {ds : List D} (hd : ndD d = true) (h : ndDs ds = true) : ndDs (dkDs ks ds k d) = true := by
  unfold dkDs
  split
  · exact nd_zipw hd ks ds h
  · rw [nd_app, h, Bool.true_and]
    simp [ndDs, hd]
/-- what a table of costs holds -/
structure TI (w : Word) (P : Nat → Nat → Prop) (ks : List (List Key)) (ds : List D) (b : Nat) : Prop where
  len : ks.length = ds.length
  lt : ks.length ≤ b
  nd : ndDs ds = true
  val : ∀ lo hi, P lo hi → valD ks ds (k2 lo hi) = some (.int (C w (hi - lo) lo))
theorem TI.get {w : Word} {P : Nat → Nat → Prop} {ks : List (List Key)} {ds : List D} {b : Nat} (t : TI w P ks ds b) {lo hi : Nat} (h : P lo hi) : valT (.dit ks ds) [.int lo, .int hi] = some (.int (C w (hi - lo) lo)) := by
  show (if 2 ≤ 8 then (match keysD [.int (lo : Int), .int (hi : Int)] with | some k => valD ks ds k | none => none) else none) = _
  rw [if_pos (by omega)]
  exact t.val lo hi h
theorem TI.put {w : Word} {P : Nat → Nat → Prop} {ks : List (List Key)} {ds : List D} {b : Nat} (t : TI w P ks ds b) {lo hi : Nat} : TI w (fun a c => P a c ∨ (a = lo ∧ c = hi)) (dkKs ks (k2 lo hi)) (dkDs ks ds (k2 lo hi) (.int (C w (hi - lo) lo))) (b + 1) where
  len := put_len t.len
  lt := by
    have := len_set (k := k2 lo hi) (ks := ks)
    have := t.lt
    omega
  nd := nd_set rfl t.nd
  val := fun a c h => by
    rw [valD_set t.len]
    by_cases e : k2 a c = k2 lo hi
    · obtain ⟨rfl, rfl⟩ := k2_inj e
      rw [if_pos rfl]
    · rw [if_neg e]
      rcases h with h | ⟨rfl, rfl⟩
      · exact t.val a c h
      · exact absurd rfl e
theorem put_run (ks : List (List Key)) (ds : List D) (lo hi : Nat) (d : D) (h : ks.length < 16777216) : dPutT [.int lo, .int hi] d (.dit ks ds) = some (.dit (dkKs ks (k2 lo hi)) (dkDs ks ds (k2 lo hi) d)) := by
  show (if ks.length < sizeLine ∧ 2 ≤ 8 then some (D.dit (dkKs ks (k2 lo hi)) (dkDs ks ds (k2 lo hi) d)) else none) = _
  rw [if_pos ⟨h, by omega⟩]
end K47
end

section
set_option Elab.async false
set_option linter.all false
set_option autoImplicit false
set_option maxRecDepth 100000
namespace K47
open DL PySem L2 P_k47_whole_charts PyProof.Rows
theorem rng2 (a b : Nat) (ha : a ≤ 1000000) (hb : b ≤ 1000000) : dRng2 [.int (a : Int), .int (b : Int)] = some ((List.range (b - a)).map fun i : Nat => D.int ((a + i : Nat) : Int)) := by
  rw [dRng2_ok (by omega) (by omega) (by omega) (by omega), rng_nat2]
theorem periods_ok (x : Word) (hl : x.length ≤ 1000) (n : Int) : f_periods [encT x] n = some (.ok (.lst ((pers x).map fun p : Nat => D.int p)), n) := by
  have c := comp_filter (fun p : Nat => D.int p) (compB [2] (gV 2) (tAndD (tB (e2 dEq (e2 dMod (eVar 1) (eVar 2)) (eC (.int 0)))) (tB (e2 dEq (eCut (eVar 0) (oSome (eVar 2)) oNone) (eCut (eVar 0) oNone (oSome (e2 dSub (eVar 1) (eVar 2))))))) (eVar 2) [.val (encT x), .val (.int x.length), .no]) (perB x) n ((List.range (x.length - 1)).map (1 + ·)) fun p hp => by
    obtain ⟨i, hi, rfl⟩ := List.mem_map.mp hp
    rw [List.mem_range] at hi
    obtain ⟨p, hpp⟩ : ∃ p, p = 1 + i := ⟨_, rfl⟩
    have hp1 : 1 ≤ p := by omega
    have hp2 : p ≤ x.length := by omega
    show compB _ _ _ _ _ (D.int ((1 + i : Nat) : Int)) n = some (.ok (if perB x (1 + i) then some (.int ((1 + i : Nat) : Int)) else none), n)
    rw [← hpp]
    have m := dMod_int (i := (x.length : Int)) (j := (p : Int)) (by omega)
    have mc : (x.length : Int) % (p : Int) = ((x.length % p : Nat) : Int) := (Int.natCast_emod _ _).symm
    rw [mc] at m
    have c1 := cut_from x p
    have c2 := cut_to x (x.length - p)
    have sc : ((x.length - p : Nat) : Int) = (x.length : Int) - (p : Int) := by omega
    rw [sc] at c2
    have e := dEq_T (x.drop p) (x.take (x.length - p))
    unfold perB
    generalize encT (x.drop p) = A1 at *
    generalize encT (x.take (x.length - p)) = A2 at *
    generalize encT x = Z at *
    by_cases h1 : x.length % p = 0
    · rw [h1] at m
      by_cases h2 : x.drop p = x.take (x.length - p)
      · rw [decide_eq_true h2] at e
        simp [m, c1, c2, e, h1, h2]
      · rw [decide_eq_false h2] at e
        simp [m, c1, c2, e, h1, h2]
    · have h1' : ¬ ((x.length % p : Nat) : Int) = 0 := by omega
      rw [decide_eq_false h1, Bool.false_and]
      generalize ((x.length % p : Nat) : Int) = r at *
      simp [m, h1']
  have r := rng2 1 x.length (by omega) (by omega)
  have rm : ((List.range (x.length - 1)).map fun i : Nat => D.int ((1 + i : Nat) : Int)) = ((List.range (x.length - 1)).map (1 + ·)).map fun p : Nat => D.int p := by rw [List.map_map]; rfl
  rw [rm] at r
  have z : ((pers x).map fun p : Nat => D.int p).length ≤ 16777216 := by
    unfold pers
    have := List.length_filter_le (perB x) ((List.range (x.length - 1)).map (1 + ·))
    rw [List.length_map, List.length_range] at this
    rw [List.length_map]
    omega
  have ml := mkLst_of z
  have fe : (((List.range (x.length - 1)).map (1 + ·)).filter (perB x)) = pers x := rfl
  rw [fe] at c
  have l := dLen_T x
  have one : ((1 : Nat) : Int) = 1 := rfl
  rw [one] at r
  generalize ((pers x).map fun p : Nat => D.int p) = B at *
  generalize (((List.range (x.length - 1)).map (1 + ·)).map fun p : Nat => D.int p) = A at *
  generalize encT x = Z at *
  simp only [f_periods, g_periods]
  simp [l, r, c, ml]
theorem repeat_ok (a : Int) (p : Nat) (n : Int) : f_repeat_cost [.int a, .int p] n = some (.ok (.int (a + rp2 p)), n) := by
  simp only [f_repeat_cost, g_repeat_cost]
  unfold rp2
  by_cases h : p = 1
  · subst h
    simp
  · have h' : ¬ (p : Int) = 1 := by omega
    simp [h, h']
/-! ### the ways below -/
def cutR (w : Word) (m low i : Nat) : Int × D := (C w (i + 1) low + C w (m - (i + 1)) (low + (i + 1)), .tup [.str "cut", .int ((low + 1 + i : Nat) : Int)])
def timR (w : Word) (low p : Nat) : Int × D := (C w p low + rp2 p, .tup [.str "times", .int p])
def waysP (w : Word) (m low : Nat) : List (Int × D) := if m = 1 then [(1, .tup [.str "cell"])] else (List.range (m - 1)).map (cutR w m low) ++ (pers (st w low m)).map (timR w low)
def prD (q : Int × D) : D := .tup [.int q.1, q.2]
theorem ways_price (w : Word) (m low : Nat) (hm : 1 ≤ m) (h : low + m ≤ w.length) : (waysP w m low).map (·.1) = prices w (C w) m low := by
  unfold waysP prices
  by_cases h1 : m = 1
  · subst h1
    have : pers (st w low 1) = [] := by
      unfold pers
      rw [st_len w low 1 h]
      rfl
    rw [this]
    rfl
  · rw [if_neg h1, if_neg h1, List.map_append, List.map_map, List.map_map, List.append_nil]
    rfl
def WB0 : SX := (sIf (tB (e2 dEq (eVar 2) (e2 dAdd (eVar 1) (eC (.int 1))))) (sRet (eLst (eCons (eTup (eCons (eC (.int 1)) (eCons (eTup (eCons (eC (.str "cell")) eNil)) eNil))) eNil))) sNx)
def WB1 : SX := (sOwnN 4 (nComp [6] (gV 6) (iRng2D (eCons (e2 dAdd (eVar 1) (eC (.int 1))) (eCons (eVar 2) eNil))) tYesD (eTup (eCons (e2 dAdd (eIxT (eVar 3) (eCons (eVar 1) (eCons (eVar 6) eNil))) (eIxT (eVar 3) (eCons (eVar 6) (eCons (eVar 2) eNil)))) (eCons (eTup (eCons (eC (.str "cut")) (eCons (eVar 6) eNil))) eNil)))))
def WB2b : SX := (sApp 4 (eTup (eCons (eCall (f_repeat_cost) (eCons (eIxT (eVar 3) (eCons (eVar 1) (eCons (e2 dAdd (eVar 1) (eVar 5)) eNil))) (eCons (eVar 5) eNil))) (eCons (eTup (eCons (eC (.str "times")) (eCons (eVar 5) eNil))) eNil))))
def WB2 : SX := (sFor (gV 5) (iOf (eCall (f_periods) (eCons (eCut (eVar 0) (oSome (eVar 1)) (oSome (eVar 2))) eNil))) WB2b)
def WB : SX := (sSeq WB0 (sSeq WB1 (sSeq WB2 (sSeq (sFrz 4) (sRet (eVar 4))))))
theorem WB_eq : g_ways_below = WB := rfl
theorem tim_loop (w : Word) (Z TB : D) (low high : Nat) (ht : ∀ p : Nat, valT TB [.int low, .int ((low : Int) + p)] = some (.int (C w p low)) ∨ ¬ (1 ≤ p ∧ low + p < high)) (n : Int) : ∀ (ps : List Nat) (acc : List D) (s5 : Sl), (∀ p ∈ ps, 1 ≤ p ∧ low + p < high) → acc.length + ps.length ≤ 3000 →
    ∃ t5, forD (gV 5) WB2b (ps.map fun p : Nat => D.int p) [.val Z, .val (.int low), .val (.int high), .val TB, .own (.lst acc), s5, .no] n = some (.ok (.nx [.val Z, .val (.int low), .val (.int high), .val TB, .own (.lst (acc ++ ps.map fun p => prD (timR w low p))), t5, .no]), n)
  | [], acc, s5, _, _ => ⟨s5, by simp⟩
  | p :: ps, acc, s5, hp, hz => by
    rw [List.length_cons] at hz
    obtain ⟨t5, e⟩ := tim_loop w Z TB low high ht n ps (acc ++ [prD (timR w low p)]) (.val (.int p)) (fun q hq => hp q (List.mem_cons_of_mem _ hq)) (by rw [List.length_append]; simp; omega)
    refine ⟨t5, ?_⟩
    have v := (ht p).resolve_right fun z => z (hp p List.mem_cons_self)
    have r := repeat_ok (C w p low) p n
    have up := uApp_ok (prD (timR w low p)) acc (by omega)
    have b : WB2b [.val Z, .val (.int low), .val (.int high), .val TB, .own (.lst acc), .val (.int p), .no] n = some (.ok (.nx [.val Z, .val (.int low), .val (.int high), .val TB, .own (.lst (acc ++ [prD (timR w low p)])), .val (.int p), .no]), n) := by
      unfold prD timR at up ⊢
      unfold WB2b
      simp [v, r, up]
    rw [List.map_cons, forD_cons, bind_ap, gV_ap, opt_some, bindR_ok, bind_ap]
    show bindR (WB2b [.val Z, .val (.int low), .val (.int high), .val TB, .own (.lst acc), .val (.int p), .no] n) _ = _
    rw [b, bindR_ok, turnK_nx, e, List.map_cons, List.append_assoc]
    rfl
theorem ways_ok (w : Word) (hw : w.length ≤ 60) (P : Nat → Nat → Prop) (ks : List (List Key)) (ds : List D) (b : Nat) (t : TI w P ks ds b) (m low : Nat) (hm : 1 ≤ m) (h : low + m ≤ w.length) (hP : ∀ a c, low ≤ a → a < c → c ≤ low + m → c - a < m → P a c) (n : Int) :
    f_ways_below [encT w, .int low, .int ((low + m : Nat) : Int), .dit ks ds] n = some (.ok (.lst ((waysP w m low).map prD)), n) := by
  by_cases h1 : m = 1
  · subst h1
    have e : waysP w 1 low = [(1, .tup [.str "cell"])] := rfl
    rw [e]
    have c : ((low + 1 : Nat) : Int) = (low : Int) + 1 := by omega
    rw [c]
    have g0 : WB0 [.val (encT w), .val (.int low), .val (.int ((low : Int) + 1)), .val (.dit ks ds), .no, .no, .no] n = some (.ok (.ret (.lst [.tup [.int 1, .tup [.str "cell"]]])), n) := by
      unfold WB0
      simp
    show bindR (WB [.val (encT w), .val (.int low), .val (.int ((low : Int) + 1)), .val (.dit ks ds), .no, .no, .no] n) runK = _
    unfold WB
    rw [sSeq_ap, bind_ap, g0, bindR_ok]
    rfl
  · have e : waysP w m low = (List.range (m - 1)).map (cutR w m low) ++ (pers (st w low m)).map (timR w low) := if_neg h1
    rw [e]
    have hi : ((low + m : Nat) : Int) = (low : Int) + m := by omega
    have ne : ¬ ((low + m : Nat) : Int) = (low : Int) + 1 := by omega
    have g0 : WB0 [.val (encT w), .val (.int low), .val (.int ((low + m : Nat) : Int)), .val (.dit ks ds), .no, .no, .no] n = some (.ok (.nx [.val (encT w), .val (.int low), .val (.int ((low + m : Nat) : Int)), .val (.dit ks ds), .no, .no, .no]), n) := by
      generalize ((low + m : Nat) : Int) = hh at *
      unfold WB0
      simp [ne]
    have r := rng2 (low + 1) (low + m) (by omega) (by omega)
    have lc : ((low + 1 : Nat) : Int) = (low : Int) + 1 := by omega
    rw [lc, show low + m - (low + 1) = m - 1 by omega] at r
    have c := comp_all (fun i : Nat => D.int ((low + 1 + i : Nat) : Int)) (compB [6] (gV 6) tYesD (eTup (eCons (e2 dAdd (eIxT (eVar 3) (eCons (eVar 1) (eCons (eVar 6) eNil))) (eIxT (eVar 3) (eCons (eVar 6) (eCons (eVar 2) eNil)))) (eCons (eTup (eCons (eC (.str "cut")) (eCons (eVar 6) eNil))) eNil))) [.val (encT w), .val (.int low), .val (.int ((low + m : Nat) : Int)), .val (.dit ks ds), .no, .no, .no]) (fun i => prD (cutR w m low i)) n (List.range (m - 1)) fun i hi' => by
      rw [List.mem_range] at hi'
      have v1 := t.get (lo := low) (hi := low + 1 + i) (hP _ _ (by omega) (by omega) (by omega) (by omega))
      have v2 := t.get (lo := low + 1 + i) (hi := low + m) (hP _ _ (by omega) (by omega) (by omega) (by omega))
      rw [show low + 1 + i - low = i + 1 by omega] at v1
      rw [show low + m - (low + 1 + i) = m - (i + 1) by omega, show C w (m - (i + 1)) (low + 1 + i) = C w (m - (i + 1)) (low + (i + 1)) by rw [show low + 1 + i = low + (i + 1) by omega]] at v2
      unfold prD cutR
      generalize ((low + 1 + i : Nat) : Int) = cc at *
      generalize ((low + m : Nat) : Int) = hh at *
      generalize C w (i + 1) low = x1 at *
      generalize C w (m - (i + 1)) (low + (i + 1)) = x2 at *
      generalize D.dit ks ds = TB at *
      generalize encT w = Z at *
      simp [v1, v2]
    have gz1 := gz_of (ds := (List.range (m - 1)).map fun i => prD (cutR w m low i)) (by rw [List.length_map, List.length_range]; omega)
    have g1 : WB1 [.val (encT w), .val (.int low), .val (.int ((low + m : Nat) : Int)), .val (.dit ks ds), .no, .no, .no] n = some (.ok (.nx [.val (encT w), .val (.int low), .val (.int ((low + m : Nat) : Int)), .val (.dit ks ds), .own (.lst ((List.range (m - 1)).map fun i => prD (cutR w m low i))), .no, .no]), n) := by
      generalize ((List.range (m - 1)).map fun i => prD (cutR w m low i)) = B at *
      generalize ((List.range (m - 1)).map fun i : Nat => D.int ((low + 1 + i : Nat) : Int)) = A at *
      generalize ((low + m : Nat) : Int) = hh at *
      generalize D.dit ks ds = TB at *
      generalize encT w = Z at *
      unfold WB1
      simp [r, c, gz1]
    have pk := periods_ok (st w low m) (by rw [st_len w low m h]; omega) n
    have cm := cut_mid w low (low + m)
    have sw : (w.take (low + m)).drop low = st w low m := rfl
    rw [sw] at cm
    obtain ⟨t5, lp⟩ := tim_loop w (encT w) (.dit ks ds) low (low + m) (fun p => by
      by_cases hp : 1 ≤ p ∧ low + p < low + m
      · left
        have v := t.get (lo := low) (hi := low + p) (hP _ _ (by omega) (by omega) (by omega) (by omega))
        rw [show low + p - low = p by omega] at v
        have : ((low + p : Nat) : Int) = (low : Int) + p := by omega
        rw [this] at v
        exact v
      · right; exact hp) n (pers (st w low m)) ((List.range (m - 1)).map fun i => prD (cutR w m low i)) .no (fun p hp => by
        have := pers_lt _ p hp
        rw [st_len w low m h] at this
        omega) (by
        rw [List.length_map, List.length_range]
        have : (pers (st w low m)).length ≤ m := by
          unfold pers
          have := List.length_filter_le (perB (st w low m)) ((List.range ((st w low m).length - 1)).map (1 + ·))
          rw [List.length_map, List.length_range, st_len w low m h] at this
          rw [st_len w low m h]
          omega
        omega)
    have g2 : WB2 [.val (encT w), .val (.int low), .val (.int ((low + m : Nat) : Int)), .val (.dit ks ds), .own (.lst ((List.range (m - 1)).map fun i => prD (cutR w m low i))), .no, .no] n = some (.ok (.nx [.val (encT w), .val (.int low), .val (.int ((low + m : Nat) : Int)), .val (.dit ks ds), .own (.lst (((List.range (m - 1)).map fun i => prD (cutR w m low i)) ++ (pers (st w low m)).map fun p => prD (timR w low p))), t5, .no]), n) := by
      generalize ((List.range (m - 1)).map fun i => prD (cutR w m low i)) = B at *
      generalize ((pers (st w low m)).map fun p => prD (timR w low p)) = B2 at *
      generalize ((pers (st w low m)).map fun p : Nat => D.int p) = PP at *
      generalize encT (st w low m) = SW at *
      generalize ((low + m : Nat) : Int) = hh at *
      generalize D.dit ks ds = TB at *
      generalize encT w = Z at *
      unfold WB2
      generalize WB2b = BB at *
      simp [cm, pk, lp]
    have fin : ((List.range (m - 1)).map fun i => prD (cutR w m low i)) ++ ((pers (st w low m)).map fun p => prD (timR w low p)) = ((List.range (m - 1)).map (cutR w m low) ++ (pers (st w low m)).map (timR w low)).map prD := by
      rw [List.map_append, List.map_map, List.map_map]
      rfl
    rw [fin] at g2
    have go : WB [.val (encT w), .val (.int low), .val (.int ((low + m : Nat) : Int)), .val (.dit ks ds), .no, .no, .no] n = some (.ok (.ret (.lst (((List.range (m - 1)).map (cutR w m low) ++ (pers (st w low m)).map (timR w low)).map prD))), n) := seq_go g0 (seq_go g1 (seq_go g2 (seq_go rfl rfl)))
    show bindR (WB [.val (encT w), .val (.int low), .val (.int ((low + m : Nat) : Int)), .val (.dit ks ds), .no, .no, .no] n) runK = _
    rw [go]
    rfl
end K47
end

section
set_option Elab.async false
set_option linter.all false
set_option autoImplicit false
set_option maxRecDepth 100000
namespace K47
open DL PySem L2 P_k47_whole_charts PyProof.Rows
theorem minL_spec {xs : List Int} (h : xs ≠ []) : minL xs ∈ xs ∧ ∀ y ∈ xs, minL xs ≤ y := by
  cases xs with
  | nil => exact absurd rfl h
  | cons a r =>
    have e : minI (a :: r) = some (minL (a :: r)) := rfl
    exact ⟨(minI_ok e).2.1, (minI_ok e).2.2⟩
theorem minL_eq {xs : List Int} {m : Int} (h1 : m ∈ xs) (h2 : ∀ y ∈ xs, m ≤ y) : minL xs = m := by
  have hn : xs ≠ [] := fun e => by rw [e] at h1; simp at h1
  obtain ⟨a, b⟩ := minL_spec hn
  exact Int.le_antisymm (b m h1) (h2 _ a)
theorem ints_int : ∀ ns : List Int, dInts (ns.map D.int) = some ns
  | [] => rfl
  | k :: r => by
    rw [List.map_cons]
    show (match dInts (r.map D.int) with | some ns => some (k :: ns) | none => none) = _
    rw [ints_int r]
theorem dMinL_ok {ns : List Int} (h : ns ≠ []) : dMinL [.lst (ns.map D.int)] = some (.int (minL ns)) := by
  show (lstI [.lst (ns.map D.int)]).bind (fun ns => (minI ns).map D.int) = _
  have e : lstI [.lst (ns.map D.int)] = some ns := ints_int ns
  rw [e]
  cases ns with
  | nil => exact absurd rfl h
  | cons a r => rfl
theorem fsts_pr : ∀ prs : List (Int × D), fstsI (prs.map prD) = some (prs.map (·.1))
  | [] => rfl
  | p :: r => by
    rw [List.map_cons, List.map_cons]
    show (match fstI (prD p) with | some k => (match fstsI (r.map prD) with | some ks => some (k :: ks) | none => none) | none => none) = _
    rw [fsts_pr r]
    rfl
theorem minK_pr {prs : List (Int × D)} (h : prs ≠ []) : ∃ q ∈ prs, dMinK0 (.lst (prs.map prD)) = some (prD q) ∧ q.1 = minL (prs.map (·.1)) := by
  cases prs with
  | nil => exact absurd rfl h
  | cons p r =>
    have e : dMinK0 (.lst ((p :: r).map prD)) = some (pickK p.1 (prD p) (r.map (·.1)) (r.map prD)) := by
      show (match fstsI ((p :: r).map prD) with | some (k :: ks) => some (pickK k (prD p) ks (r.map prD)) | _ => none) = _
      rw [fsts_pr]
      rfl
    rw [e]
    rcases pickK_ok (r.map (·.1)) (r.map prD) p.1 (prD p) (by simp) with ⟨h1, h2⟩ | ⟨i, m, h1, h2, h3, h4, h5⟩
    · refine ⟨p, List.mem_cons_self, by rw [h1], (minL_eq (by simp) fun y hy => ?_).symm⟩
      rw [List.map_cons] at hy
      rcases List.mem_cons.mp hy with z | z
      · omega
      · exact h2 y z
    · rw [List.getElem?_map] at h1 h2
      obtain ⟨q, q1, q2⟩ := Option.map_eq_some_iff.mp h1
      obtain ⟨q', q1', q2'⟩ := Option.map_eq_some_iff.mp h2
      rw [q1] at q1'
      cases q1'
      have hm := List.mem_of_getElem? q1
      refine ⟨q, List.mem_cons_of_mem _ hm, by rw [← q2'], (minL_eq ?_ fun y hy => ?_).symm⟩
      · exact List.mem_map.mpr ⟨q, List.mem_cons_of_mem _ hm, rfl⟩
      · rw [List.map_cons] at hy
        rw [q2]
        rcases List.mem_cons.mp hy with z | z
        · omega
        · exact h4 y z
theorem ways_ne (w : Word) (m low : Nat) (hm : 1 ≤ m) : waysP w m low ≠ [] := by
  unfold waysP
  by_cases h1 : m = 1
  · rw [if_pos h1]; simp
  · rw [if_neg h1]
    intro e
    have := congrArg List.length e
    simp at this
    omega
theorem ways_nd (w : Word) (m low : Nat) : ∀ q ∈ waysP w m low, ndD q.2 = true := by
  intro q hq
  unfold waysP at hq
  split at hq
  · rw [List.mem_singleton.mp hq]
    simp [ndD, ndDs]
  · rcases List.mem_append.mp hq with h | h
    · obtain ⟨i, _, rfl⟩ := List.mem_map.mp h
      unfold cutR
      simp [ndD, ndDs]
    · obtain ⟨i, _, rfl⟩ := List.mem_map.mp h
      unfold timR
      simp [ndD, ndDs]
theorem nd_cells : ∀ w : Word, ndDs (w.map (PyE.enc : Cell → D)) = true
  | [] => by simp [ndDs]
  | c :: w => by
    rw [List.map_cons, nd_cons, nd_cells w, Bool.and_true]
    show ndD (.tup [.str c.k.s, .str c.y.s]) = true
    simp [ndD, ndDs]
theorem nd_word (w : Word) : ndD (encT w) = true := by
  unfold encT ndD
  exact nd_cells w
/-! ### the filled table -/
def FB0 : SX := (sAsg (gT (gsC (gV 5) (gsC (gV 6) gsN))) (eLend 1 (e1 dMinK0 (eCall (f_ways_below) (eCons (eVar 0) (eCons (eVar 4) (eCons (e2 dAdd (eVar 4) (eVar 3)) (eCons (eVar 1) eNil))))))))
def FB1 : SX := (sPutT 1 (eCons (eVar 4) (eCons (e2 dAdd (eVar 4) (eVar 3)) eNil)) (eVar 5))
def FB2 : SX := (sPutT 2 (eCons (eVar 4) (eCons (e2 dAdd (eVar 4) (eVar 3)) eNil)) (eVar 6))
def FB : SX := (sSeq FB0 (sSeq FB1 FB2))
def FI : SX := (sFor (gV 4) (iRng1D (eCons (e2 dAdd (e2 dSub (eB dLen (eCons (eVar 0) eNil)) (eVar 3)) (eC (.int 1))) eNil)) FB)
def FO : SX := (sFor (gV 3) (iRng2D (eCons (eC (.int 1)) (eCons (e2 dAdd (eB dLen (eCons (eVar 0) eNil)) (eC (.int 1))) eNil))) FI)
def FL : SX := (sSeq (sOwn2 1 2 (.dit [] []) (.dit [] [])) (sSeq FO (sSeq (sFrz 1) (sSeq (sFrz 2) (sRet (eTup (eCons (eVar 1) (eCons (eVar 2) eNil))))))))
theorem FL_eq : g__filled = FL := rfl
/-- what is filled when the stretches of length m up to low are being filled -/
def Don (w : Word) (m low : Nat) : Nat → Nat → Prop := fun a c => a < c ∧ c ≤ w.length ∧ (c - a < m ∨ (c - a = m ∧ a < low))
structure HI (ks : List (List Key)) (ds : List D) (b : Nat) : Prop where
  len : ks.length = ds.length
  lt : ks.length ≤ b
  nd : ndDs ds = true
theorem HI.put {ks : List (List Key)} {ds : List D} {b : Nat} (t : HI ks ds b) {lo hi : Nat} {d : D} (hd : ndD d = true) : HI (dkKs ks (k2 lo hi)) (dkDs ks ds (k2 lo hi) d) (b + 1) where
  len := put_len t.len
  lt := by
    have := len_set (k := k2 lo hi) (ks := ks)
    have := t.lt
    omega
  nd := nd_set hd t.nd
def FE (w : Word) (ks : List (List Key)) (ds : List D) (ks' : List (List Key)) (ds' : List D) (s3 s4 s5 s6 : Sl) : DL.Env := [.val (encT w), .own (.dit ks ds), .own (.dit ks' ds'), s3, s4, s5, s6]
theorem fb_run (w : Word) (hw : w.length ≤ 60) (ks : List (List Key)) (ds : List D) (ks' : List (List Key)) (ds' : List D) (b : Nat) (hb : b ≤ 100000) (m low : Nat) (hm : 1 ≤ m) (h : low + m ≤ w.length) (t : TI w (Don w m low) ks ds b) (u : HI ks' ds' b) (s5 s6 : Sl) (h5 : ndSl s5 = true) (h6 : ndSl s6 = true) (n : Int) :
    ∃ (ks1 : List (List Key)) (ds1 : List D) (ks1' : List (List Key)) (ds1' : List D) (s5' s6' : Sl), TI w (Don w m (low + 1)) ks1 ds1 (b + 1) ∧ HI ks1' ds1' (b + 1) ∧ ndSl s5' = true ∧ ndSl s6' = true ∧
      FB (FE w ks ds ks' ds' (.val (.int m)) (.val (.int low)) s5 s6) n = some (.ok (.nx (FE w ks1 ds1 ks1' ds1' (.val (.int m)) (.val (.int low)) s5' s6')), n) := by
  have wy := ways_ok w hw (Don w m low) ks ds b t m low hm h (fun a c h1 h2 h3 h4 => ⟨h2, by omega, .inl h4⟩) n
  obtain ⟨q, q1, q2, q3⟩ := minK_pr (ways_ne w m low hm)
  have qn := ways_nd w m low q q1
  rw [ways_price w m low hm h, ← C_eq w m low hm h] at q3
  have hl : low + m - low = m := by omega
  have t1 := t.put (lo := low) (hi := low + m)
  rw [hl, ← q3] at t1
  have u1 := u.put (lo := low) (hi := low + m) qn
  have pd : ndD (prD q) = true := by
    unfold prD ndD
    rw [nd_cons, nd_cons, qn]
    simp [ndDs, ndD]
  have kc : ((low + m : Nat) : Int) = (low : Int) + (m : Int) := by omega
  have ld : eLend 1 (e1 dMinK0 (eCall (f_ways_below) (eCons (eVar 0) (eCons (eVar 4) (eCons (e2 dAdd (eVar 4) (eVar 3)) (eCons (eVar 1) eNil)))))) (FE w ks ds ks' ds' (.val (.int m)) (.val (.int low)) s5 s6) n = some (.ok (prD q), n) := by
    refine lend_of (d0 := .dit ks ds) rfl t.nd ?_ ?_ pd
    · show (ndSl (.val (encT w)) && ([Sl.own (.dit ks' ds'), .val (.int (m : Int)), .val (.int (low : Int)), s5, s6].all ndSl)) = true
      have a1 : ndSl (.val (encT w)) = true := nd_word w
      have a2 : ndSl (.own (.dit ks' ds')) = true := u.nd
      have a3 : ∀ i : Int, ndSl (.val (.int i)) = true := fun i => by unfold ndSl ndD; rfl
      simp only [List.all_cons, List.all_nil, a1, a2, a3, h5, h6, Bool.and_true]
    · show e1 dMinK0 (eCall (f_ways_below) (eCons (eVar 0) (eCons (eVar 4) (eCons (e2 dAdd (eVar 4) (eVar 3)) (eCons (eVar 1) eNil))))) [.val (encT w), .val (.dit ks ds), .own (.dit ks' ds'), .val (.int m), .val (.int low), s5, s6] n = _
      rw [kc] at wy
      generalize ((waysP w m low).map prD) = WS at *
      generalize D.dit ks ds = TB at *
      generalize encT w = Z at *
      simp [wy, q2]
  have g0 : FB0 (FE w ks ds ks' ds' (.val (.int m)) (.val (.int low)) s5 s6) n = some (.ok (.nx (FE w ks ds ks' ds' (.val (.int m)) (.val (.int low)) (.val (.int q.1)) (.val q.2))), n) := by
    unfold FB0
    rw [sAsg_ap, bind_ap, ld, bindR_ok]
    rfl
  have p1 := put_run ks ds low (low + m) (.int q.1) (by have := t.lt; omega)
  have p2 := put_run ks' ds' low (low + m) q.2 (by have := u.lt; omega)
  rw [kc] at p1 p2
  have g1 : FB1 (FE w ks ds ks' ds' (.val (.int m)) (.val (.int low)) (.val (.int q.1)) (.val q.2)) n = some (.ok (.nx (FE w (dkKs ks (k2 low (low + m))) (dkDs ks ds (k2 low (low + m)) (.int q.1)) ks' ds' (.val (.int m)) (.val (.int low)) (.val (.int q.1)) (.val q.2))), n) := by
    unfold FB1 FE
    generalize D.dit (dkKs ks (k2 low (low + m))) (dkDs ks ds (k2 low (low + m)) (.int q.1)) = T2 at *
    generalize D.dit ks ds = TB at *
    generalize encT w = Z at *
    simp [p1]
  have g2 : FB2 (FE w (dkKs ks (k2 low (low + m))) (dkDs ks ds (k2 low (low + m)) (.int q.1)) ks' ds' (.val (.int m)) (.val (.int low)) (.val (.int q.1)) (.val q.2)) n = some (.ok (.nx (FE w (dkKs ks (k2 low (low + m))) (dkDs ks ds (k2 low (low + m)) (.int q.1)) (dkKs ks' (k2 low (low + m))) (dkDs ks' ds' (k2 low (low + m)) q.2) (.val (.int m)) (.val (.int low)) (.val (.int q.1)) (.val q.2))), n) := by
    unfold FB2 FE
    generalize D.dit (dkKs ks' (k2 low (low + m))) (dkDs ks' ds' (k2 low (low + m)) q.2) = T3 at *
    generalize D.dit (dkKs ks (k2 low (low + m))) (dkDs ks ds (k2 low (low + m)) (.int q.1)) = T2 at *
    generalize D.dit ks' ds' = TB at *
    generalize encT w = Z at *
    simp [p2]
  refine ⟨_, _, _, _, _, _, ⟨t1.len, t1.lt, t1.nd, fun lo hi hd => t1.val lo hi ?_⟩, u1, ?_, ?_, seq_go g0 (seq_go g1 g2)⟩
  · obtain ⟨d1, d2, d3⟩ := hd
    rcases d3 with d3 | ⟨d3, d4⟩
    · exact .inl ⟨d1, d2, .inl d3⟩
    · by_cases e : lo = low
      · exact .inr ⟨e, by omega⟩
      · exact .inl ⟨d1, d2, .inr ⟨d3, by omega⟩⟩
  · show ndD (.int q.1) = true
    unfold ndD; rfl
  · exact qn
theorem fi_loop (w : Word) (hw : w.length ≤ 60) (m : Nat) (hm : 1 ≤ m) (hmw : m ≤ w.length) (n : Int) : ∀ (d low : Nat) (ks : List (List Key)) (ds : List D) (ks' : List (List Key)) (ds' : List D) (b : Nat) (s4 s5 s6 : Sl), low + d = w.length - m + 1 → b + d ≤ 100000 → TI w (Don w m low) ks ds b → HI ks' ds' b → ndSl s4 = true → ndSl s5 = true → ndSl s6 = true →
    ∃ (ks1 : List (List Key)) (ds1 : List D) (ks1' : List (List Key)) (ds1' : List D) (t4 t5 t6 : Sl), TI w (Don w m (w.length - m + 1)) ks1 ds1 (b + d) ∧ HI ks1' ds1' (b + d) ∧ ndSl t4 = true ∧ ndSl t5 = true ∧ ndSl t6 = true ∧
      forD (gV 4) FB ((List.range d).map fun i : Nat => D.int ((low + i : Nat) : Int)) (FE w ks ds ks' ds' (.val (.int m)) s4 s5 s6) n = some (.ok (.nx (FE w ks1 ds1 ks1' ds1' (.val (.int m)) t4 t5 t6)), n)
  | 0, low, ks, ds, ks', ds', b, s4, s5, s6, hd, hb, t, u, h4, h5, h6 => ⟨ks, ds, ks', ds', s4, s5, s6, by rw [← hd]; exact t, u, h4, h5, h6, rfl⟩
  | d + 1, low, ks, ds, ks', ds', b, s4, s5, s6, hd, hb, t, u, h4, h5, h6 => by
    obtain ⟨ks1, ds1, ks1', ds1', s5', s6', t1, u1, h5', h6', e1⟩ := fb_run w hw ks ds ks' ds' b (by omega) m low hm (by omega) t u s5 s6 h5 h6 n
    obtain ⟨ks2, ds2, ks2', ds2', t4, t5, t6, t2, u2, h4'', h5'', h6'', e2⟩ := fi_loop w hw m hm hmw n d (low + 1) ks1 ds1 ks1' ds1' (b + 1) (.val (.int low)) s5' s6' (by omega) (by omega) t1 u1 (by show ndD _ = true; unfold ndD; rfl) h5' h6'
    rw [show b + 1 + d = b + (d + 1) by omega] at t2 u2
    refine ⟨ks2, ds2, ks2', ds2', t4, t5, t6, t2, u2, h4'', h5'', h6'', ?_⟩
    rw [List.range_succ_eq_map, List.map_cons, List.map_map, forD_cons, bind_ap, gV_ap, opt_some, bindR_ok, bind_ap]
    show bindR (FB (FE w ks ds ks' ds' (.val (.int m)) (.val (.int ((low + 0 : Nat) : Int))) s5 s6) n) _ = _
    rw [Nat.add_zero, e1, bindR_ok, turnK_nx]
    have le : ((List.range d).map ((fun i : Nat => D.int ((low + i : Nat) : Int)) ∘ Nat.succ)) = (List.range d).map fun i : Nat => D.int ((low + 1 + i : Nat) : Int) := List.map_congr_left fun i _ => by
      show D.int ((low + (i + 1) : Nat) : Int) = _
      rw [show low + (i + 1) = low + 1 + i by omega]
    rw [le, e2]
end K47
end

section
set_option Elab.async false
set_option linter.all false
set_option autoImplicit false
set_option maxRecDepth 100000
namespace K47
open DL PySem L2 P_k47_whole_charts PyProof.Rows
theorem fo_loop (w : Word) (hw : w.length ≤ 60) (n : Int) : ∀ (d m : Nat) (ks : List (List Key)) (ds : List D) (ks' : List (List Key)) (ds' : List D) (b : Nat) (s3 s4 s5 s6 : Sl), 1 ≤ m → m + d = w.length + 1 → b + d * 61 ≤ 100000 → TI w (Don w m 0) ks ds b → HI ks' ds' b → ndSl s4 = true → ndSl s5 = true → ndSl s6 = true →
    ∃ (ks1 : List (List Key)) (ds1 : List D) (ks1' : List (List Key)) (ds1' : List D) (b1 : Nat) (t3 t4 t5 t6 : Sl), TI w (Don w (w.length + 1) 0) ks1 ds1 b1 ∧ HI ks1' ds1' b1 ∧
      forD (gV 3) FI ((List.range d).map fun i : Nat => D.int ((m + i : Nat) : Int)) (FE w ks ds ks' ds' s3 s4 s5 s6) n = some (.ok (.nx (FE w ks1 ds1 ks1' ds1' t3 t4 t5 t6)), n)
  | 0, m, ks, ds, ks', ds', b, s3, s4, s5, s6, hm, hd, hb, t, u, h4, h5, h6 => ⟨ks, ds, ks', ds', b, s3, s4, s5, s6, by rw [← hd]; exact t, u, rfl⟩
  | d + 1, m, ks, ds, ks', ds', b, s3, s4, s5, s6, hm, hd, hb, t, u, h4, h5, h6 => by
    rw [Nat.succ_mul] at hb
    obtain ⟨ks1, ds1, ks1', ds1', t4, t5, t6, t1, u1, h4', h5', h6', e1⟩ := fi_loop w hw m hm (by omega) n (w.length - m + 1) 0 ks ds ks' ds' b s4 s5 s6 (by omega) (by omega) t u h4 h5 h6
    have t1' : TI w (Don w (m + 1) 0) ks1 ds1 (b + (w.length - m + 1)) := ⟨t1.len, t1.lt, t1.nd, fun lo hi ⟨d1, d2, d3⟩ => t1.val lo hi ⟨d1, d2, by omega⟩⟩
    obtain ⟨ks2, ds2, ks2', ds2', b2, x3, x4, x5, x6, t2, u2, e2⟩ := fo_loop w hw n d (m + 1) ks1 ds1 ks1' ds1' (b + (w.length - m + 1)) (.val (.int m)) t4 t5 t6 (by omega) (by omega) (by omega) t1' u1 h4' h5' h6'
    refine ⟨ks2, ds2, ks2', ds2', b2, x3, x4, x5, x6, t2, u2, ?_⟩
    have r := rng1 (w.length - m + 1) (by omega)
    have lw := dLen_T w
    have kc : ((w.length - m + 1 : Nat) : Int) = (w.length : Int) - (m : Int) + 1 := by omega
    rw [kc] at r
    have z0 : ((List.range (w.length - m + 1)).map fun i : Nat => D.int ((0 + i : Nat) : Int)) = (List.range (w.length - m + 1)).map fun i : Nat => D.int i := List.map_congr_left fun i _ => by rw [Nat.zero_add]
    rw [z0] at e1
    have gi : FI (FE w ks ds ks' ds' (.val (.int m)) s4 s5 s6) n = some (.ok (.nx (FE w ks1 ds1 ks1' ds1' (.val (.int m)) t4 t5 t6)), n) := by
      unfold FI
      unfold FE at e1 ⊢
      generalize ((List.range (w.length - m + 1)).map fun i : Nat => D.int i) = RR at *
      generalize encT w = Z at *
      generalize FB = BB at *
      simp [lw, r, e1]
    rw [List.range_succ_eq_map, List.map_cons, List.map_map, forD_cons, bind_ap, gV_ap, opt_some, bindR_ok, bind_ap]
    show bindR (FI (FE w ks ds ks' ds' (.val (.int ((m + 0 : Nat) : Int))) s4 s5 s6) n) _ = _
    rw [Nat.add_zero, gi, bindR_ok, turnK_nx]
    have le : ((List.range d).map ((fun i : Nat => D.int ((m + i : Nat) : Int)) ∘ Nat.succ)) = (List.range d).map fun i : Nat => D.int ((m + 1 + i : Nat) : Int) := List.map_congr_left fun i _ => by
      show D.int ((m + (i + 1) : Nat) : Int) = _
      rw [show m + (i + 1) = m + 1 + i by omega]
    rw [le, e2]
theorem ti0 (w : Word) : TI w (Don w 1 0) [] [] 0 := ⟨rfl, Nat.le_refl _, by unfold ndDs; rfl, fun lo hi ⟨h1, h2, h3⟩ => by omega⟩
theorem hi0 : HI [] [] 0 := ⟨rfl, Nat.le_refl _, by unfold ndDs; rfl⟩
theorem filled_ok (w : Word) (hw : w.length ≤ 60) (n : Int) : ∃ (ks : List (List Key)) (ds : List D) (ks' : List (List Key)) (ds' : List D) (b : Nat), TI w (Don w (w.length + 1) 0) ks ds b ∧ f__filled [encT w] n = some (.ok (.tup [.dit ks ds, .dit ks' ds']), n) := by
  obtain ⟨ks1, ds1, ks1', ds1', b1, t3, t4, t5, t6, t1, u1, e1⟩ := fo_loop w hw n w.length 1 [] [] [] [] 0 .no .no .no .no (Nat.le_refl _) (by omega) (by omega) (ti0 w) hi0 rfl rfl rfl
  refine ⟨ks1, ds1, ks1', ds1', b1, t1, ?_⟩
  have r := rng2 1 (w.length + 1) (by omega) (by omega)
  rw [Nat.add_sub_cancel] at r
  have lw := dLen_T w
  have kc : ((w.length + 1 : Nat) : Int) = (w.length : Int) + 1 := by omega
  have one : ((1 : Nat) : Int) = 1 := rfl
  rw [kc, one] at r
  have g1 : FO (FE w [] [] [] [] .no .no .no .no) n = some (.ok (.nx (FE w ks1 ds1 ks1' ds1' t3 t4 t5 t6)), n) := by
    unfold FO
    unfold FE at e1 ⊢
    generalize ((List.range w.length).map fun i : Nat => D.int ((1 + i : Nat) : Int)) = RR at *
    generalize encT w = Z at *
    generalize FI = BB at *
    simp [lw, r, e1]
  have g4 : (sSeq (sFrz 1) (sSeq (sFrz 2) (sRet (eTup (eCons (eVar 1) (eCons (eVar 2) eNil)))))) (FE w ks1 ds1 ks1' ds1' t3 t4 t5 t6) n = some (.ok (.ret (.tup [.dit ks1 ds1, .dit ks1' ds1'])), n) := by
    refine seq_go (ρ1 := [.val (encT w), .val (.dit ks1 ds1), .own (.dit ks1' ds1'), t3, t4, t5, t6]) rfl (seq_go (ρ1 := [.val (encT w), .val (.dit ks1 ds1), .val (.dit ks1' ds1'), t3, t4, t5, t6]) rfl ?_)
    generalize encT w = Z at *
    simp
  have go : FL [.val (encT w), .no, .no, .no, .no, .no, .no] n = some (.ok (.ret (.tup [.dit ks1 ds1, .dit ks1' ds1'])), n) := seq_go (ρ1 := FE w [] [] [] [] .no .no .no .no) rfl (seq_go g1 g4)
  have sh : f__filled [encT w] n = bindR (FL ([encT w].map Sl.val ++ List.replicate (7 - 1) Sl.no) n) runK := by
    unfold f__filled
    rw [runD_ap, bind_ap, FL_eq]
  have arg : ([encT w].map Sl.val ++ List.replicate (7 - 1) Sl.no) = [.val (encT w), .no, .no, .no, .no, .no, .no] := rfl
  rw [sh, arg, go]
  rfl
theorem short_ok (w : Word) (hw : w.length ≤ 60) (n : Int) : f_check_short [encT w] n = some (.ok .non, n) := by
  have h1 := word_is w (by omega) n
  have l := dLen_T w
  have c : ¬ (60 : Int) < w.length := by omega
  generalize encT w = Z at *
  simp only [f_check_short, g_check_short]
  simp [h1, l, c]
theorem least_ok (w : Word) (hw : w.length ≤ 60) (n : Int) : f_least_cost [encT w] n = some (.ok (.int (K w)), n) := by
  have ck := short_ok w hw n
  have l := dLen_T w
  have e := dEq_T w ([] : Word)
  have e0 : encT ([] : Word) = .tup [] := rfl
  rw [e0] at e
  by_cases h : w = []
  · have k : K w = 0 := if_pos h
    rw [k]
    rw [decide_eq_true h] at e
    generalize encT w = Z at *
    simp only [f_least_cost, g_least_cost]
    simp [ck, e]
  · have k : K w = C w w.length 0 := if_neg h
    have hl : 0 < w.length := List.length_pos_iff.mpr h
    rw [k]
    rw [decide_eq_false h] at e
    obtain ⟨ks, ds, ks', ds', b, t, ef⟩ := filled_ok w hw n
    have v := t.get (lo := 0) (hi := w.length) ⟨hl, Nat.le_refl _, .inl (by omega)⟩
    rw [Nat.sub_zero] at v
    have z0 : ((0 : Nat) : Int) = 0 := rfl
    rw [z0] at v
    have x0 : dIx (.tup [.dit ks ds, .dit ks' ds']) (.int 0) = some (.dit ks ds) := rfl
    generalize D.tup [.dit ks ds, .dit ks' ds'] = TT at *
    generalize D.dit ks ds = TB at *
    generalize encT w = Z at *
    simp only [f_least_cost, g_least_cost]
    simp [ck, e, ef, x0, l, v]
/-- what a row costs -/
def RC (b g a : Word) : Int := K b + (K g + (K a + 0)) + (if g = [] then 0 else 2)
theorem sum3 (x y z : Int) : dSum [.lst [.int x, .int y, .int z]] = some (.int (x + (y + (z + 0)))) := rfl
theorem row_cost_ok (b g a : Word) (hb : b.length ≤ 60) (hg : g.length ≤ 60) (ha : a.length ≤ 60) (n : Int) : f_row_cost [rD b g a] n = some (.ok (.int (RC b g a)), n) := by
  have h1 := least_ok b hb n
  have h2 := least_ok g hg n
  have h3 := least_ok a ha n
  have s := sum3 (K b) (K g) (K a)
  have e := dNe_T g ([] : Word)
  have e0 : encT ([] : Word) = .tup [] := rfl
  rw [e0] at e
  unfold RC rD
  generalize K b = x1 at *
  generalize K g = x2 at *
  generalize K a = x3 at *
  generalize encT b = B at *
  generalize encT g = G at *
  generalize encT a = A at *
  have x1' : dIx (.tup [B, G, A]) (.int 1) = some G := rfl
  have it : dItems (.tup [B, G, A]) = some [B, G, A] := rfl
  generalize hs : x1 + (x2 + (x3 + 0)) = S at *
  simp only [f_row_cost, g_row_cost]
  by_cases hg0 : g = []
  · simp [it, compD_cons, compD_nil, h1, h2, h3, s, x1', e, hg0]
  · simp [it, compD_cons, compD_nil, h1, h2, h3, s, x1', e, hg0]
end K47
end

section
set_option Elab.async false
set_option linter.all false
set_option autoImplicit false
set_option maxRecDepth 100000
namespace K47
open DL PySem L2 P_k47_whole_charts PyProof.Rows
/-! ### the law's own table of costs -/
def TC1 : SX := (sAsg (gV 4) (e2 dAdd (eVar 3) (eVar 2)))
def TCc : EX := (eComp [7] (gV 7) (iRng2D (eCons (e2 dAdd (eVar 3) (eC (.int 1))) (eCons (eVar 4) eNil))) tYesD (e2 dAdd (eIxT (eVar 1) (eCons (eVar 3) (eCons (eVar 7) eNil))) (eIxT (eVar 1) (eCons (eVar 7) (eCons (eVar 4) eNil)))))
def TC2 : SX := (sOwnN 5 (nAdd (eLend 1 TCc) (eIf (tB (e2 dEq (eVar 2) (eC (.int 1)))) (eLst (eCons (eC (.int 1)) eNil)) (eLst eNil))))
def TCa : EX := (e2 dAdd (eIxT (eVar 1) (eCons (eVar 3) (eCons (e2 dAdd (eVar 3) (eVar 6)) eNil))) (eIf (tB (e2 dEq (eVar 6) (eC (.int 1)))) (eC (.int 1)) (eC (.int 2))))
def TCt : TX := (tAndD (tB (e2 dEq (e2 dMod (eB dIntA (eCons (eVar 2) eNil)) (eVar 6)) (eC (.int 0)))) (tB (e2 dEq (e2 dMul (eCut (eVar 0) (oSome (eVar 3)) (oSome (e2 dAdd (eVar 3) (eVar 6)))) (e2 dDiv (eVar 2) (eVar 6))) (eCut (eVar 0) (oSome (eVar 3)) (oSome (eVar 4))))))
def TCb : SX := (sIf TCt (sApp 5 (eLend 1 TCa)) sNx)
def TC3 : SX := (sFor (gV 6) (iRng2D (eCons (eC (.int 1)) (eCons (eVar 2) eNil))) TCb)
def TC5 : SX := (sPutT 1 (eCons (eVar 3) (eCons (eVar 4) eNil)) (eB dMinL (eCons (eVar 5) eNil)))
def TCB : SX := (sSeq TC1 (sSeq TC2 (sSeq TC3 (sSeq (sFrz 5) TC5))))
def TCI : SX := (sFor (gV 3) (iRng1D (eCons (e2 dAdd (e2 dSub (eB dLen (eCons (eVar 0) eNil)) (eVar 2)) (eC (.int 1))) eNil)) TCB)
def TCO : SX := (sFor (gV 2) (iRng2D (eCons (eC (.int 1)) (eCons (e2 dAdd (eB dLen (eCons (eVar 0) eNil)) (eC (.int 1))) eNil))) TCI)
def TCR : SX := (sRet (eIf (tB (e2 dEq (eVar 0) (eTup eNil))) (eC (.int 0)) (eIxT (eVar 1) (eCons (eC (.int 0)) (eCons (eB dLen (eCons (eVar 0) eNil)) eNil)))))
def TCL : SX := (sSeq (sOwn 1 (.dit [] [])) (sSeq TCO (sSeq (sFrz 1) TCR)))
theorem TCL_eq : g__law_table_cost = TCL := rfl
theorem nd_ints : ∀ ns : List Int, ndDs (ns.map D.int) = true
  | [] => by simp [ndDs]
  | k :: r => by
    rw [List.map_cons, nd_cons, nd_ints r, Bool.and_true]
    unfold ndD; rfl
theorem nd_int (i : Int) : ndD (.int i) = true := by unfold ndD; rfl
theorem nsl_int (i : Int) : ndSl (.val (.int i)) = true := nd_int i
def TE (w : Word) (ks : List (List Key)) (ds : List D) (s2 s3 s4 s5 s6 : Sl) : DL.Env := [.val (encT w), .own (.dit ks ds), s2, s3, s4, s5, s6, .no]
theorem te_nd (w : Word) (ks : List (List Key)) (ds : List D) (s2 s3 s4 s5 s6 : Sl) (h2 : ndSl s2 = true) (h3 : ndSl s3 = true) (h4 : ndSl s4 = true) (h5 : ndSl s5 = true) (h6 : ndSl s6 = true) : ndBut 1 (TE w ks ds s2 s3 s4 s5 s6) = true := by
  show (ndSl (.val (encT w)) && ([s2, s3, s4, s5, s6, Sl.no].all ndSl)) = true
  have a1 : ndSl (.val (encT w)) = true := nd_word w
  have a7 : ndSl .no = true := rfl
  simp only [List.all_cons, List.all_nil, a1, h2, h3, h4, h5, h6, a7, Bool.and_true]
def cutsI (w : Word) (m low : Nat) : List Int := (List.range (m - 1)).map fun i => C w (i + 1) low + C w (m - (i + 1)) (low + (i + 1))
theorem tcc_run (w : Word) (hw : w.length ≤ 60) (P : Nat → Nat → Prop) (ks : List (List Key)) (ds : List D) (b : Nat) (t : TI w P ks ds b) (m low : Nat) (hm : 1 ≤ m) (h : low + m ≤ w.length) (hP : ∀ a c, low ≤ a → a < c → c ≤ low + m → c - a < m → P a c) (s5 s6 : Sl) (h5 : ndSl s5 = true) (h6 : ndSl s6 = true) (q5 : ∀ d, s5 ≠ .own d) (q6 : ∀ d, s6 ≠ .own d) (n : Int) :
    eLend 1 TCc (TE w ks ds (.val (.int m)) (.val (.int low)) (.val (.int ((low + m : Nat) : Int))) s5 s6) n = some (.ok (.lst ((cutsI w m low).map D.int)), n) := by
  refine lend_of (d0 := .dit ks ds) rfl t.nd (te_nd w ks ds _ _ _ s5 s6 (nsl_int _) (nsl_int _) (nsl_int _) h5 h6) ?_ (by unfold ndD; exact nd_ints _)
  show TCc [.val (encT w), .val (.dit ks ds), .val (.int m), .val (.int low), .val (.int ((low + m : Nat) : Int)), s5, s6, .no] n = _
  have r := rng2 (low + 1) (low + m) (by omega) (by omega)
  have lc : ((low + 1 : Nat) : Int) = (low : Int) + 1 := by omega
  rw [lc, show low + m - (low + 1) = m - 1 by omega] at r
  have c := comp_all (fun i : Nat => D.int ((low + 1 + i : Nat) : Int)) (compB [7] (gV 7) tYesD (e2 dAdd (eIxT (eVar 1) (eCons (eVar 3) (eCons (eVar 7) eNil))) (eIxT (eVar 1) (eCons (eVar 7) (eCons (eVar 4) eNil)))) [.val (encT w), .val (.dit ks ds), .val (.int m), .val (.int low), .val (.int ((low + m : Nat) : Int)), s5, s6, .no]) (fun i => D.int (C w (i + 1) low + C w (m - (i + 1)) (low + (i + 1)))) n (List.range (m - 1)) fun i hi' => by
    rw [List.mem_range] at hi'
    have v1 := t.get (lo := low) (hi := low + 1 + i) (hP _ _ (by omega) (by omega) (by omega) (by omega))
    have v2 := t.get (lo := low + 1 + i) (hi := low + m) (hP _ _ (by omega) (by omega) (by omega) (by omega))
    rw [show low + 1 + i - low = i + 1 by omega] at v1
    rw [show low + m - (low + 1 + i) = m - (i + 1) by omega, show C w (m - (i + 1)) (low + 1 + i) = C w (m - (i + 1)) (low + (i + 1)) by rw [show low + 1 + i = low + (i + 1) by omega]] at v2
    generalize ((low + 1 + i : Nat) : Int) = cc at *
    generalize ((low + m : Nat) : Int) = hh at *
    generalize C w (i + 1) low = x1 at *
    generalize C w (m - (i + 1)) (low + (i + 1)) = x2 at *
    generalize D.dit ks ds = TB at *
    generalize encT w = Z at *
    cases s5 with
    | own d => exact absurd rfl (q5 d)
    | no => cases s6 with
      | own d => exact absurd rfl (q6 d)
      | no => simp [v1, v2]
      | val d => simp [v1, v2]
    | val d5 => cases s6 with
      | own d => exact absurd rfl (q6 d)
      | no => simp [v1, v2]
      | val d => simp [v1, v2]
  have z : ((List.range (m - 1)).map fun i => D.int (C w (i + 1) low + C w (m - (i + 1)) (low + (i + 1)))).length ≤ 16777216 := by rw [List.length_map, List.length_range]; omega
  have ml := mkLst_of z
  have e : ((List.range (m - 1)).map fun i => D.int (C w (i + 1) low + C w (m - (i + 1)) (low + (i + 1)))) = (cutsI w m low).map D.int := by unfold cutsI; rw [List.map_map]; rfl
  rw [e] at c ml
  generalize ((cutsI w m low).map D.int) = B at *
  generalize ((List.range (m - 1)).map fun i : Nat => D.int ((low + 1 + i : Nat) : Int)) = A at *
  generalize ((low + m : Nat) : Int) = hh at *
  generalize D.dit ks ds = TB at *
  generalize encT w = Z at *
  unfold TCc
  simp [r, c, ml]
theorem tca_run (w : Word) (P : Nat → Nat → Prop) (ks : List (List Key)) (ds : List D) (b : Nat) (t : TI w P ks ds b) (m low p : Nat) (hp : P low (low + p)) (rows : List Int) (n : Int) :
    eLend 1 TCa (TE w ks ds (.val (.int m)) (.val (.int low)) (.val (.int ((low + m : Nat) : Int))) (.own (.lst (rows.map D.int))) (.val (.int p))) n = some (.ok (.int (C w p low + rp2 p)), n) := by
  refine lend_of (d0 := .dit ks ds) rfl t.nd (te_nd w ks ds _ _ _ _ _ (nsl_int _) (nsl_int _) (nsl_int _) (nd_ints rows) (nsl_int _)) ?_ (nd_int _)
  show TCa [.val (encT w), .val (.dit ks ds), .val (.int m), .val (.int low), .val (.int ((low + m : Nat) : Int)), .own (.lst (rows.map D.int)), .val (.int p), .no] n = _
  have v := t.get hp
  rw [show low + p - low = p by omega] at v
  have kc : ((low + p : Nat) : Int) = (low : Int) + p := by omega
  rw [kc] at v
  generalize ((low + m : Nat) : Int) = hh at *
  generalize D.dit ks ds = TB at *
  generalize encT w = Z at *
  unfold TCa rp2
  by_cases h : p = 1
  · subst h
    simp at v
    simp [v]
  · have h' : ¬ (p : Int) = 1 := by omega
    simp [v, h, h']
theorem int_int (i : Int) : dIntA [.int i] = some (.int i) := rfl
theorem tct_run (w : Word) (hw : w.length ≤ 60) (ks : List (List Key)) (ds : List D) (m low p : Nat) (hp : 1 ≤ p) (hpm : p < m) (h : low + m ≤ w.length) (s5 : Sl) (n : Int) :
    TCt (TE w ks ds (.val (.int m)) (.val (.int low)) (.val (.int ((low + m : Nat) : Int))) s5 (.val (.int p))) n = some (.ok (perB (st w low m) p), n) := by
  have ls := st_len w low m h
  have md := dMod_int (i := (m : Int)) (j := (p : Int)) (by omega)
  have mc : (m : Int) % (p : Int) = ((m % p : Nat) : Int) := (Int.natCast_emod _ _).symm
  rw [mc] at md
  have dd := dDiv_int (i := (m : Int)) (j := (p : Int)) (by omega) (by omega)
  have dc : (m : Int) / (p : Int) = ((m / p : Nat) : Int) := (Int.natCast_ediv _ _).symm
  rw [dc] at dd
  have c1 := cut_mid w low (low + p)
  have c2 := cut_mid w low (low + m)
  have s1 : (w.take (low + p)).drop low = (st w low m).take p := by
    unfold st
    rw [List.take_drop, List.take_take, Nat.min_eq_left (by omega)]
  have s2 : (w.take (low + m)).drop low = st w low m := rfl
  rw [s1] at c1
  rw [s2] at c2
  have k1 : ((low + p : Nat) : Int) = (low : Int) + p := by omega
  rw [k1] at c1
  have mul := dMul_T (xs := (st w low m).take p) (k := m / p) (by have := Nat.div_le_self m p; omega) (by rw [List.length_take]; omega)
  have e := dEq_T (pw ((st w low m).take p) (m / p)) (st w low m)
  have ii := int_int (m : Int)
  have pi := per_iff (st w low m) p hp
  rw [ls] at pi
  by_cases h0 : m % p = 0
  · have pi := pi h0 hpm
    have pb : perB (st w low m) p = decide (pw ((st w low m).take p) (m / p) = st w low m) := by
      unfold perB
      rw [ls, decide_eq_true h0, Bool.true_and]
      by_cases hh : pw ((st w low m).take p) (m / p) = st w low m
      · rw [decide_eq_true hh, decide_eq_true (pi.mpr hh)]
      · rw [decide_eq_false hh, decide_eq_false fun z => hh (pi.mp z)]
    rw [pb]
    rw [h0] at md
    generalize decide (pw ((st w low m).take p) (m / p) = st w low m) = q at *
    generalize encT (pw ((st w low m).take p) (m / p)) = X1 at *
    generalize encT ((st w low m).take p) = X2 at *
    generalize encT (st w low m) = X3 at *
    generalize ((m / p : Nat) : Int) = mp at *
    generalize ((low + m : Nat) : Int) = hh at *
    unfold TE
    generalize D.dit ks ds = TB at *
    generalize encT w = Z at *
    unfold TCt
    simp [ii, md, c1, c2, dd, mul, e]
  · have pb : perB (st w low m) p = false := by
      unfold perB
      rw [ls, decide_eq_false h0, Bool.false_and]
    rw [pb]
    have h0' : ¬ ((m % p : Nat) : Int) = 0 := by omega
    generalize ((m % p : Nat) : Int) = r at *
    unfold TE
    generalize ((low + m : Nat) : Int) = hh at *
    generalize D.dit ks ds = TB at *
    generalize encT w = Z at *
    unfold TCt
    simp [ii, md, h0']
theorem uApp_int (i : Int) (rows : List Int) (h : rows.length < 16777216) : uApp (.int i) (.lst (rows.map D.int)) = some (.lst ((rows ++ [i]).map D.int)) := by
  rw [uApp_ok _ _ (by rw [List.length_map]; exact h), List.map_append]
  rfl
theorem tcb_loop (w : Word) (hw : w.length ≤ 60) (P : Nat → Nat → Prop) (ks : List (List Key)) (ds : List D) (b : Nat) (t : TI w P ks ds b) (m low : Nat) (h : low + m ≤ w.length) (n : Int) : ∀ (ps : List Nat) (rows : List Int) (s6 : Sl), (∀ p ∈ ps, 1 ≤ p ∧ p < m ∧ P low (low + p)) → rows.length + ps.length ≤ 3000 → ndSl s6 = true → (∀ d, s6 ≠ .own d) →
    ∃ t6, ndSl t6 = true ∧ (∀ d, t6 ≠ .own d) ∧ forD (gV 6) TCb (ps.map fun p : Nat => D.int p) (TE w ks ds (.val (.int m)) (.val (.int low)) (.val (.int ((low + m : Nat) : Int))) (.own (.lst (rows.map D.int))) s6) n =
      some (.ok (.nx (TE w ks ds (.val (.int m)) (.val (.int low)) (.val (.int ((low + m : Nat) : Int))) (.own (.lst ((rows ++ (ps.filter (perB (st w low m))).map fun p => C w p low + rp2 p).map D.int))) t6)), n)
  | [], rows, s6, _, _, h6, q6 => ⟨s6, h6, q6, by simp⟩
  | p :: ps, rows, s6, hp, hz, h6, q6 => by
    rw [List.length_cons] at hz
    obtain ⟨p1, p2, p3⟩ := hp p List.mem_cons_self
    have tt := tct_run w hw ks ds m low p p1 p2 h (.own (.lst (rows.map D.int))) n
    have ta := tca_run w P ks ds b t m low p p3 rows n
    have up := uApp_int (C w p low + rp2 p) rows (by omega)
    obtain ⟨t6, a1, a2, e⟩ := tcb_loop w hw P ks ds b t m low h n ps (rows ++ if perB (st w low m) p then [C w p low + rp2 p] else []) (.val (.int p)) (fun q hq => hp q (List.mem_cons_of_mem _ hq)) (by rw [List.length_append]; split <;> simp <;> omega) (nsl_int _) (fun d z => by cases z)
    refine ⟨t6, a1, a2, ?_⟩
    have bd : TCb (TE w ks ds (.val (.int m)) (.val (.int low)) (.val (.int ((low + m : Nat) : Int))) (.own (.lst (rows.map D.int))) (.val (.int p))) n = some (.ok (.nx (TE w ks ds (.val (.int m)) (.val (.int low)) (.val (.int ((low + m : Nat) : Int))) (.own (.lst ((rows ++ if perB (st w low m) p then [C w p low + rp2 p] else []).map D.int))) (.val (.int p)))), n) := by
      unfold TCb
      rw [sIf_ap, bind_ap, tt, bindR_ok]
      cases perB (st w low m) p with
      | false => simp
      | true =>
        rw [selB_true, if_pos rfl]
        have ow : ownLst 5 (TE w ks ds (.val (.int m)) (.val (.int low)) (.val (.int ((low + m : Nat) : Int))) (.own (.lst (rows.map D.int))) (.val (.int p))) = some () := rfl
        have o5 : own? (TE w ks ds (.val (.int m)) (.val (.int low)) (.val (.int ((low + m : Nat) : Int))) (.own (.lst (rows.map D.int))) (.val (.int p))) 5 = some (.lst (rows.map D.int)) := rfl
        rw [sApp_ap, bind_ap, ow, opt_some, bindR_ok, sUp_ap, bind_ap, ta, bindR_ok, bind_ap, o5, Option.bind_some, up, opt_some, bindR_ok]
        rfl
    rw [List.map_cons, forD_cons, bind_ap, gV_ap, opt_some, bindR_ok, bind_ap]
    show bindR (TCb (TE w ks ds (.val (.int m)) (.val (.int low)) (.val (.int ((low + m : Nat) : Int))) (.own (.lst (rows.map D.int))) (.val (.int p))) n) _ = _
    rw [bd, bindR_ok, turnK_nx, e, List.filter_cons, List.append_assoc]
    cases perB (st w low m) p with
    | false => rfl
    | true => rfl
end K47
end

section
set_option Elab.async false
set_option linter.all false
set_option autoImplicit false
set_option maxRecDepth 100000
namespace K47
open DL PySem L2 P_k47_whole_charts PyProof.Rows
def nO (s : Sl) : Prop := ∀ d, s ≠ .own d
theorem nV (d : D) : nO (.val d) := fun _ z => by cases z
theorem nN : nO .no := fun _ z => by cases z
theorem tcB_run (w : Word) (hw : w.length ≤ 60) (ks : List (List Key)) (ds : List D) (b : Nat) (hb : b ≤ 100000) (m low : Nat) (hm : 1 ≤ m) (h : low + m ≤ w.length) (t : TI w (Don w m low) ks ds b) (s4 s5 s6 : Sl) (h4 : ndSl s4 = true) (h5 : ndSl s5 = true) (h6 : ndSl s6 = true) (q5 : nO s5) (q6 : nO s6) (n : Int) :
    ∃ (ks1 : List (List Key)) (ds1 : List D) (t4 t5 t6 : Sl), TI w (Don w m (low + 1)) ks1 ds1 (b + 1) ∧ ndSl t4 = true ∧ ndSl t5 = true ∧ ndSl t6 = true ∧ nO t5 ∧ nO t6 ∧
      TCB (TE w ks ds (.val (.int m)) (.val (.int low)) s4 s5 s6) n = some (.ok (.nx (TE w ks1 ds1 (.val (.int m)) (.val (.int low)) t4 t5 t6)), n) := by
  have hP : ∀ a c, low ≤ a → a < c → c ≤ low + m → c - a < m → Don w m low a c := fun a c h1 h2 h3 h4 => ⟨h2, by omega, .inl h4⟩
  have kc : ((low + m : Nat) : Int) = (low : Int) + (m : Int) := by omega
  have g1 : TC1 (TE w ks ds (.val (.int m)) (.val (.int low)) s4 s5 s6) n = some (.ok (.nx (TE w ks ds (.val (.int m)) (.val (.int low)) (.val (.int ((low + m : Nat) : Int))) s5 s6)), n) := by
    rw [kc]
    unfold TC1 TE
    generalize encT w = Z at *
    simp
  have ld := tcc_run w hw (Don w m low) ks ds b t m low hm h hP s5 s6 h5 h6 q5 q6 n
  have g2 : TC2 (TE w ks ds (.val (.int m)) (.val (.int low)) (.val (.int ((low + m : Nat) : Int))) s5 s6) n = some (.ok (.nx (TE w ks ds (.val (.int m)) (.val (.int low)) (.val (.int ((low + m : Nat) : Int))) (.own (.lst ((cutsI w m low ++ (if m = 1 then [1] else [])).map D.int))) s6)), n) := by
    have ei : eIf (tB (e2 dEq (eVar 2) (eC (.int 1)))) (eLst (eCons (eC (.int 1)) eNil)) (eLst eNil) (TE w ks ds (.val (.int m)) (.val (.int low)) (.val (.int ((low + m : Nat) : Int))) s5 s6) n = some (.ok (.lst ((if m = 1 then [1] else [] : List Int).map D.int)), n) := by
      unfold TE
      generalize ((low + m : Nat) : Int) = hh at *
      generalize encT w = Z at *
      by_cases e : m = 1
      · subst e
        simp
      · have e' : ¬ (m : Int) = 1 := by omega
        simp [e, e']
    have lc : (cutsI w m low).length ≤ 60 := by unfold cutsI; rw [List.length_map, List.length_range]; omega
    have ca := catL_of (xs := (cutsI w m low).map D.int) (ys := (if m = 1 then [1] else [] : List Int).map D.int) (by rw [List.length_map, List.length_map]; split <;> simp <;> omega)
    rw [← List.map_append] at ca
    unfold TC2
    rw [sOwnN_ap, bind_ap, nAdd_ap, bind_ap, ld, bindR_ok, bind_ap, ei, bindR_ok, ca, opt_some, bindR_ok]
    rfl
  have pl : ∀ p ∈ (List.range (m - 1)).map (1 + ·), 1 ≤ p ∧ p < m ∧ Don w m low low (low + p) := fun p hp => by
    obtain ⟨i, hi, rfl⟩ := List.mem_map.mp hp
    rw [List.mem_range] at hi
    exact ⟨by omega, by omega, by omega, by omega, .inl (by omega)⟩
  have lc : (cutsI w m low ++ (if m = 1 then [1] else [])).length ≤ 61 := by
    unfold cutsI
    rw [List.length_append, List.length_map, List.length_range]
    split <;> simp <;> omega
  obtain ⟨t6, a1, a2, e3⟩ := tcb_loop w hw (Don w m low) ks ds b t m low h n ((List.range (m - 1)).map (1 + ·)) (cutsI w m low ++ (if m = 1 then [1] else [])) s6 pl (by rw [List.length_map, List.length_range]; omega) h6 q6
  have ls := st_len w low m h
  have pe : ((List.range (m - 1)).map (1 + ·)).filter (perB (st w low m)) = pers (st w low m) := by unfold pers; rw [ls]
  rw [pe] at e3
  have pr : cutsI w m low ++ (if m = 1 then [1] else []) ++ ((pers (st w low m)).map fun p => C w p low + rp2 p) = prices w (C w) m low := rfl
  rw [pr] at e3
  have r := rng2 1 m (by omega) (by omega)
  have rm : ((List.range (m - 1)).map fun i : Nat => D.int ((1 + i : Nat) : Int)) = ((List.range (m - 1)).map (1 + ·)).map fun p : Nat => D.int p := by rw [List.map_map]; rfl
  have one : ((1 : Nat) : Int) = 1 := rfl
  rw [rm, one] at r
  have g3 : TC3 (TE w ks ds (.val (.int m)) (.val (.int low)) (.val (.int ((low + m : Nat) : Int))) (.own (.lst ((cutsI w m low ++ (if m = 1 then [1] else [])).map D.int))) s6) n = some (.ok (.nx (TE w ks ds (.val (.int m)) (.val (.int low)) (.val (.int ((low + m : Nat) : Int))) (.own (.lst ((prices w (C w) m low).map D.int))) t6)), n) := by
    unfold TC3
    unfold TE at e3 ⊢
    generalize (((List.range (m - 1)).map (1 + ·)).map fun p : Nat => D.int p) = RR at *
    generalize ((cutsI w m low ++ (if m = 1 then [1] else [])).map D.int) = A1 at *
    generalize ((prices w (C w) m low).map D.int) = A2 at *
    generalize ((low + m : Nat) : Int) = hh at *
    generalize encT w = Z at *
    generalize TCb = BB at *
    simp [r, e3]
  have g4 : sFrz 5 (TE w ks ds (.val (.int m)) (.val (.int low)) (.val (.int ((low + m : Nat) : Int))) (.own (.lst ((prices w (C w) m low).map D.int))) t6) n = some (.ok (.nx (TE w ks ds (.val (.int m)) (.val (.int low)) (.val (.int ((low + m : Nat) : Int))) (.val (.lst ((prices w (C w) m low).map D.int))) t6)), n) := rfl
  have pne : prices w (C w) m low ≠ [] := fun e => by
    have := ways_price w m low hm h
    rw [e] at this
    exact ways_ne w m low hm (List.map_eq_nil_iff.mp this)
  have mn := dMinL_ok pne
  rw [← C_eq w m low hm h] at mn
  have hl : low + m - low = m := by omega
  have t1 := t.put (lo := low) (hi := low + m)
  rw [hl] at t1
  have p1 := put_run ks ds low (low + m) (.int (C w m low)) (by have := t.lt; omega)
  have g5 : TC5 (TE w ks ds (.val (.int m)) (.val (.int low)) (.val (.int ((low + m : Nat) : Int))) (.val (.lst ((prices w (C w) m low).map D.int))) t6) n = some (.ok (.nx (TE w (dkKs ks (k2 low (low + m))) (dkDs ks ds (k2 low (low + m)) (.int (C w m low))) (.val (.int m)) (.val (.int low)) (.val (.int ((low + m : Nat) : Int))) (.val (.lst ((prices w (C w) m low).map D.int))) t6)), n) := by
    unfold TC5 TE
    generalize ((prices w (C w) m low).map D.int) = A2 at *
    generalize D.dit (dkKs ks (k2 low (low + m))) (dkDs ks ds (k2 low (low + m)) (.int (C w m low))) = T2 at *
    generalize ((low + m : Nat) : Int) = hh at *
    generalize D.dit ks ds = TB at *
    generalize encT w = Z at *
    simp [mn, p1]
  refine ⟨_, _, _, _, t6, ⟨t1.len, t1.lt, t1.nd, fun lo hi hd => t1.val lo hi ?_⟩, nsl_int _, (by show ndD (.lst _) = true; unfold ndD; exact nd_ints _), a1, nV _, a2, seq_go g1 (seq_go g2 (seq_go g3 (seq_go g4 g5)))⟩
  obtain ⟨d1, d2, d3⟩ := hd
  rcases d3 with d3 | ⟨d3, d4⟩
  · exact .inl ⟨d1, d2, .inl d3⟩
  · by_cases e : lo = low
    · exact .inr ⟨e, by omega⟩
    · exact .inl ⟨d1, d2, .inr ⟨d3, by omega⟩⟩
theorem tci_loop (w : Word) (hw : w.length ≤ 60) (m : Nat) (hm : 1 ≤ m) (hmw : m ≤ w.length) (n : Int) : ∀ (d low : Nat) (ks : List (List Key)) (ds : List D) (b : Nat) (s3 s4 s5 s6 : Sl), low + d = w.length - m + 1 → b + d ≤ 100000 → TI w (Don w m low) ks ds b → ndSl s4 = true → ndSl s5 = true → ndSl s6 = true → nO s5 → nO s6 →
    ∃ (ks1 : List (List Key)) (ds1 : List D) (t3 t4 t5 t6 : Sl), TI w (Don w m (w.length - m + 1)) ks1 ds1 (b + d) ∧ ndSl t4 = true ∧ ndSl t5 = true ∧ ndSl t6 = true ∧ nO t5 ∧ nO t6 ∧
      forD (gV 3) TCB ((List.range d).map fun i : Nat => D.int ((low + i : Nat) : Int)) (TE w ks ds (.val (.int m)) s3 s4 s5 s6) n = some (.ok (.nx (TE w ks1 ds1 (.val (.int m)) t3 t4 t5 t6)), n)
  | 0, low, ks, ds, b, s3, s4, s5, s6, hd, hb, t, h4, h5, h6, q5, q6 => ⟨ks, ds, s3, s4, s5, s6, by rw [← hd]; exact t, h4, h5, h6, q5, q6, rfl⟩
  | d + 1, low, ks, ds, b, s3, s4, s5, s6, hd, hb, t, h4, h5, h6, q5, q6 => by
    obtain ⟨ks1, ds1, x4, x5, x6, t1, h4', h5', h6', q5', q6', e1⟩ := tcB_run w hw ks ds b (by omega) m low hm (by omega) t s4 s5 s6 h4 h5 h6 q5 q6 n
    obtain ⟨ks2, ds2, y3, y4, y5, y6, t2, h4'', h5'', h6'', q5'', q6'', e2⟩ := tci_loop w hw m hm hmw n d (low + 1) ks1 ds1 (b + 1) (.val (.int low)) x4 x5 x6 (by omega) (by omega) t1 h4' h5' h6' q5' q6'
    rw [show b + 1 + d = b + (d + 1) by omega] at t2
    refine ⟨ks2, ds2, y3, y4, y5, y6, t2, h4'', h5'', h6'', q5'', q6'', ?_⟩
    rw [List.range_succ_eq_map, List.map_cons, List.map_map, forD_cons, bind_ap, gV_ap, opt_some, bindR_ok, bind_ap]
    show bindR (TCB (TE w ks ds (.val (.int m)) (.val (.int ((low + 0 : Nat) : Int))) s4 s5 s6) n) _ = _
    rw [Nat.add_zero, e1, bindR_ok, turnK_nx]
    have le : ((List.range d).map ((fun i : Nat => D.int ((low + i : Nat) : Int)) ∘ Nat.succ)) = (List.range d).map fun i : Nat => D.int ((low + 1 + i : Nat) : Int) := List.map_congr_left fun i _ => by
      show D.int ((low + (i + 1) : Nat) : Int) = _
      rw [show low + (i + 1) = low + 1 + i by omega]
    rw [le, e2]
theorem tco_loop (w : Word) (hw : w.length ≤ 60) (n : Int) : ∀ (d m : Nat) (ks : List (List Key)) (ds : List D) (b : Nat) (s2 s3 s4 s5 s6 : Sl), 1 ≤ m → m + d = w.length + 1 → b + d * 61 ≤ 100000 → TI w (Don w m 0) ks ds b → ndSl s4 = true → ndSl s5 = true → ndSl s6 = true → nO s5 → nO s6 →
    ∃ (ks1 : List (List Key)) (ds1 : List D) (b1 : Nat) (t2 t3 t4 t5 t6 : Sl), TI w (Don w (w.length + 1) 0) ks1 ds1 b1 ∧
      forD (gV 2) TCI ((List.range d).map fun i : Nat => D.int ((m + i : Nat) : Int)) (TE w ks ds s2 s3 s4 s5 s6) n = some (.ok (.nx (TE w ks1 ds1 t2 t3 t4 t5 t6)), n)
  | 0, m, ks, ds, b, s2, s3, s4, s5, s6, hm, hd, hb, t, h4, h5, h6, q5, q6 => ⟨ks, ds, b, s2, s3, s4, s5, s6, by rw [← hd]; exact t, rfl⟩
  | d + 1, m, ks, ds, b, s2, s3, s4, s5, s6, hm, hd, hb, t, h4, h5, h6, q5, q6 => by
    rw [Nat.succ_mul] at hb
    obtain ⟨ks1, ds1, t3, t4, t5, t6, t1, h4', h5', h6', q5', q6', e1⟩ := tci_loop w hw m hm (by omega) n (w.length - m + 1) 0 ks ds b s3 s4 s5 s6 (by omega) (by omega) t h4 h5 h6 q5 q6
    have t1' : TI w (Don w (m + 1) 0) ks1 ds1 (b + (w.length - m + 1)) := ⟨t1.len, t1.lt, t1.nd, fun lo hi ⟨d1, d2, d3⟩ => t1.val lo hi ⟨d1, d2, by omega⟩⟩
    obtain ⟨ks2, ds2, b2, x2, x3, x4, x5, x6, t2, e2⟩ := tco_loop w hw n d (m + 1) ks1 ds1 (b + (w.length - m + 1)) (.val (.int m)) t3 t4 t5 t6 (by omega) (by omega) (by omega) t1' h4' h5' h6' q5' q6'
    refine ⟨ks2, ds2, b2, x2, x3, x4, x5, x6, t2, ?_⟩
    have r := rng1 (w.length - m + 1) (by omega)
    have lw := dLen_T w
    have kc : ((w.length - m + 1 : Nat) : Int) = (w.length : Int) - (m : Int) + 1 := by omega
    rw [kc] at r
    have z0 : ((List.range (w.length - m + 1)).map fun i : Nat => D.int ((0 + i : Nat) : Int)) = (List.range (w.length - m + 1)).map fun i : Nat => D.int i := List.map_congr_left fun i _ => by rw [Nat.zero_add]
    rw [z0] at e1
    have gi : TCI (TE w ks ds (.val (.int m)) s3 s4 s5 s6) n = some (.ok (.nx (TE w ks1 ds1 (.val (.int m)) t3 t4 t5 t6)), n) := by
      unfold TCI
      unfold TE at e1 ⊢
      generalize ((List.range (w.length - m + 1)).map fun i : Nat => D.int i) = RR at *
      generalize encT w = Z at *
      generalize TCB = BB at *
      simp [lw, r, e1]
    rw [List.range_succ_eq_map, List.map_cons, List.map_map, forD_cons, bind_ap, gV_ap, opt_some, bindR_ok, bind_ap]
    show bindR (TCI (TE w ks ds (.val (.int ((m + 0 : Nat) : Int))) s3 s4 s5 s6) n) _ = _
    rw [Nat.add_zero, gi, bindR_ok, turnK_nx]
    have le : ((List.range d).map ((fun i : Nat => D.int ((m + i : Nat) : Int)) ∘ Nat.succ)) = (List.range d).map fun i : Nat => D.int ((m + 1 + i : Nat) : Int) := List.map_congr_left fun i _ => by
      show D.int ((m + (i + 1) : Nat) : Int) = _
      rw [show m + (i + 1) = m + 1 + i by omega]
    rw [le, e2]
theorem table_ok (w : Word) (hw : w.length ≤ 60) (n : Int) : f__law_table_cost [encT w] n = some (.ok (.int (K w)), n) := by
  obtain ⟨ks, ds, b, t2, t3, t4, t5, t6, t, e1⟩ := tco_loop w hw n w.length 1 [] [] 0 .no .no .no .no .no (Nat.le_refl _) (by omega) (by omega) (ti0 w) rfl rfl rfl nN nN
  have r := rng2 1 (w.length + 1) (by omega) (by omega)
  rw [Nat.add_sub_cancel] at r
  have lw := dLen_T w
  have kc : ((w.length + 1 : Nat) : Int) = (w.length : Int) + 1 := by omega
  have one : ((1 : Nat) : Int) = 1 := rfl
  rw [kc, one] at r
  have g1 : TCO (TE w [] [] .no .no .no .no .no) n = some (.ok (.nx (TE w ks ds t2 t3 t4 t5 t6)), n) := by
    unfold TCO
    unfold TE at e1 ⊢
    generalize ((List.range w.length).map fun i : Nat => D.int ((1 + i : Nat) : Int)) = RR at *
    generalize encT w = Z at *
    generalize TCI = BB at *
    simp [lw, r, e1]
  have e := dEq_T w ([] : Word)
  have e0 : encT ([] : Word) = .tup [] := rfl
  rw [e0] at e
  have g3 : TCR [.val (encT w), .val (.dit ks ds), t2, t3, t4, t5, t6, .no] n = some (.ok (.ret (.int (K w))), n) := by
    by_cases h : w = []
    · have k : K w = 0 := if_pos h
      rw [k]
      rw [decide_eq_true h] at e
      generalize encT w = Z at *
      unfold TCR
      simp [e]
    · have k : K w = C w w.length 0 := if_neg h
      have hl : 0 < w.length := List.length_pos_iff.mpr h
      rw [k]
      rw [decide_eq_false h] at e
      have v := t.get (lo := 0) (hi := w.length) ⟨hl, Nat.le_refl _, .inl (by omega)⟩
      rw [Nat.sub_zero] at v
      have z0 : ((0 : Nat) : Int) = 0 := rfl
      rw [z0] at v
      generalize D.dit ks ds = TB at *
      generalize encT w = Z at *
      unfold TCR
      simp [e, lw, v]
  have go : TCL [.val (encT w), .no, .no, .no, .no, .no, .no, .no] n = some (.ok (.ret (.int (K w))), n) := seq_go (ρ1 := TE w [] [] .no .no .no .no .no) rfl (seq_go g1 (seq_go (ρ1 := [.val (encT w), .val (.dit ks ds), t2, t3, t4, t5, t6, .no]) rfl g3))
  have sh : f__law_table_cost [encT w] n = bindR (TCL ([encT w].map Sl.val ++ List.replicate (8 - 1) Sl.no) n) runK := by
    unfold f__law_table_cost
    rw [runD_ap, bind_ap, TCL_eq]
  have arg : ([encT w].map Sl.val ++ List.replicate (8 - 1) Sl.no) = [.val (encT w), .no, .no, .no, .no, .no, .no, .no] := rfl
  rw [sh, arg, go]
  rfl
theorem law_cost_ok (b g a : Word) (hb : b.length ≤ 60) (hg : g.length ≤ 60) (ha : a.length ≤ 60) (n : Int) : f__law_cost [rD b g a] n = some (.ok (.int (RC b g a)), n) := by
  have h1 := table_ok b hb n
  have h2 := table_ok g hg n
  have h3 := table_ok a ha n
  have s := sum3 (K b) (K g) (K a)
  have e := dEq_T g ([] : Word)
  have e0 : encT ([] : Word) = .tup [] := rfl
  rw [e0] at e
  unfold RC rD
  generalize K b = x1 at *
  generalize K g = x2 at *
  generalize K a = x3 at *
  generalize encT b = B at *
  generalize encT g = G at *
  generalize encT a = A at *
  have x1' : dIx (.tup [B, G, A]) (.int 1) = some G := rfl
  have it : dItems (.tup [B, G, A]) = some [B, G, A] := rfl
  generalize hs : x1 + (x2 + (x3 + 0)) = S at *
  simp only [f__law_cost, g__law_cost]
  by_cases hg0 : g = []
  · simp [it, compD_cons, compD_nil, h1, h2, h3, s, x1', e, hg0]
  · simp [it, compD_cons, compD_nil, h1, h2, h3, s, x1', e, hg0]
end K47
end

section
set_option Elab.async false
set_option linter.all false
set_option autoImplicit false
set_option maxRecDepth 100000
namespace K47
open DL PySem L2 P_k47_whole_charts PyProof.Rows
theorem atI_in {α : Type} (xs : List α) (j : Int) (h0 : 0 ≤ j) (h1 : j < xs.length) : ∃ x, atI xs j = some x := by
  obtain ⟨k, rfl⟩ : ∃ k : Nat, j = (k : Int) := ⟨j.toNat, by omega⟩
  have : k < xs.length := by omega
  exact ⟨xs[k], atI_nat (by simp [this])⟩
theorem mul_r (i j : Int) (h : -1000000 ≤ j) (h2 : j ≤ 1000000) : dMul (.int i) (.int j) = some (.int (i * j)) := dMul_int (.inr (small64_of h h2))
theorem mul_l (i j : Int) (h : -1000000 ≤ i) (h2 : i ≤ 1000000) : dMul (.int i) (.int j) = some (.int (i * j)) := dMul_int (.inl (small64_of h h2))
theorem number_ok (W : Wd) (i n : Int) : ∃ v : Int, f__law_number W [.scr, .int i] n = some (.ok (.int v), n) := by
  have m1 := fun x => mul_r x 48271 (by omega) (by omega)
  have m2 := fun x => mul_r x 69621 (by omega) (by omega)
  have m3 := fun x => mul_r x 16807 (by omega) (by omega)
  have m4 := fun x => mul_l 977 x (by omega) (by omega)
  have m5 := fun x => mul_l 31 x (by omega) (by omega)
  have d1 := fun x => dMod_int (i := x) (j := 2147483647) (by omega)
  have d2 := fun x => dMod_int (i := x) (j := 2147483629) (by omega)
  have d3 := fun x => dMod_int (i := x) (j := 2147483587) (by omega)
  have nil : dScrNil W .scr (.lst []) = some (.bl W.ns.isEmpty) := rfl
  have len : dLenS W [.scr] = some (.int W.ns.length) := rfl
  have int : ∀ x, dInt [.int x] = some (.int x) := fun _ => rfl
  cases he : W.ns.isEmpty with
  | true =>
    rw [he] at nil
    simp only [f__law_number, g__law_number]
    simp [nil, m1, d1, int]
  | false =>
    rw [he] at nil
    have hl : 0 < W.ns.length := by
      cases hn : W.ns with
      | nil => rw [hn] at he; cases he
      | cons a b => simp
    have hl' : (0 : Int) < (W.ns.length : Int) := by omega
    have d0 := fun x => dMod_int (i := x) (j := (W.ns.length : Int)) hl'
    obtain ⟨x, hx⟩ := atI_in W.ns (i % (W.ns.length : Int)) (Int.emod_nonneg _ (by omega)) (Int.emod_lt_of_pos _ hl')
    have ix : dIxS W .scr (.int (i % (W.ns.length : Int))) = some (.int x) := by
      show (atI W.ns _).map D.int = _
      rw [hx]; rfl
    obtain ⟨p60, e60⟩ : ∃ p60 : Int, dPow (.int 10) (.int 60) = some (.int p60) := ⟨_, rfl⟩
    have e18 : dPow (.int 10) (.int 18) = some (.int 1000000000000000000) := rfl
    have d18 := fun x => dMod_int (i := x) (j := 1000000000000000000) (by omega)
    have ab : dAbs [.int x] = some (.int (if x < 0 then -x else x)) := rfl
    obtain ⟨y, hy⟩ : ∃ y, y = (if x < 0 then -x else x) := ⟨_, rfl⟩
    rw [← hy] at ab
    simp only [f__law_number, g__law_number]
    by_cases hb : p60 ≤ y
    · simp [nil, len, d0, ix, ab, e60, hb, e18, d18, m4, m1, m5, d1, m2, d2, m3, d3, int]
    · simp [nil, len, d0, ix, ab, e60, hb, m4, m1, m5, d1, m2, d2, m3, d3, int]
theorem take_ok (W : Wd) (m n : Int) (h : 0 < m) : ∃ v : Int, 0 ≤ v ∧ v < m ∧ f__law_take W [.drw, .int m] n = some (.ok (.int v), n + 1) := by
  obtain ⟨v, hv⟩ := number_ok W (n + 1) (n + 1)
  refine ⟨v % m, Int.emod_nonneg _ (by omega), Int.emod_lt_of_pos _ h, ?_⟩
  have int : ∀ x, dInt [.int x] = some (.int x) := fun _ => rfl
  have s1 : ∀ n, sDrw (eVar 0) [.val .drw, .val (.int m)] n = some (.ok (.nx [.val .drw, .val (.int m)]), n + 1) := fun n => rfl
  have s2 : ∀ n, eDrw0 (eVar 0) [.val .drw, .val (.int m)] n = some (.ok .scr, n) := fun n => rfl
  have s3 : ∀ n, eDrw1 (eVar 0) [.val .drw, .val (.int m)] n = some (.ok (.int n), n) := fun n => rfl
  simp only [f__law_take, g__law_take]
  simp [s1, s2, s3, int, hv, dMod_int h]

theorem ixA_lst (ds : List D) (i : Int) : dIxA (.lst ds) (.int i) = atI ds i := rfl
theorem pick_ok (W : Wd) (ds : List D) (h : ds ≠ []) (n : Int) : ∃ d ∈ ds, f__law_pick W [.drw, .lst ds] n = some (.ok d, n + 1) := by
  have hl : 0 < ds.length := List.length_pos_iff.mpr h
  obtain ⟨v, h0, h1, hv⟩ := take_ok W ds.length n (by omega)
  obtain ⟨k, rfl⟩ : ∃ k : Nat, v = (k : Int) := ⟨v.toNat, by omega⟩
  have hk : k < ds.length := by omega
  have ix : dIxA (.lst ds) (.int (k : Int)) = some ds[k] := (ixA_lst ds k).trans (atI_nat (by simp [hk]))
  refine ⟨ds[k], List.getElem_mem hk, ?_⟩
  simp only [f__law_pick, g__law_pick]
  simp [hv, ix]


/-! ### drawn words and rows -/
def KL : List D := [.str "k", .str "p", .str "k", .str "p", .str "sl", .str "yo", .str "k2tog", .str "ssk", .str "kfb", .str "m1l", .str "c2f", .str "ktbl", .str "p2tog", .str "bo"]
theorem kl_mem (d : D) (h : d ∈ KL) : ∃ k : Kd, d = .str k.s := by
  simp only [KL, List.mem_cons, List.not_mem_nil, or_false] at h
  rcases h with h | h | h | h | h | h | h | h | h | h | h | h | h | h
  · exact ⟨.k, h⟩
  · exact ⟨.p, h⟩
  · exact ⟨.k, h⟩
  · exact ⟨.p, h⟩
  · exact ⟨.sl, h⟩
  · exact ⟨.yo, h⟩
  · exact ⟨.k2tog, h⟩
  · exact ⟨.ssk, h⟩
  · exact ⟨.kfb, h⟩
  · exact ⟨.m1l, h⟩
  · exact ⟨.c2f, h⟩
  · exact ⟨.ktbl, h⟩
  · exact ⟨.p2tog, h⟩
  · exact ⟨.bo, h⟩
/-- a list of yarns -/
def Ys (ys : List D) : Prop := ys ≠ [] ∧ ∀ d ∈ ys, ∃ y : Yn, d = .str y.s
theorem ys_a : Ys [.str "a"] := ⟨by simp, fun d h => ⟨.a, List.mem_singleton.mp h⟩⟩
theorem ys_ab : Ys [.str "a", .str "b"] := ⟨by simp, fun d h => by
  simp only [List.mem_cons, List.not_mem_nil, or_false] at h
  rcases h with h | h
  · exact ⟨.a, h⟩
  · exact ⟨.b, h⟩⟩
theorem lcell_ok (W : Wd) (ys : List D) (hy : Ys ys) (n : Int) : ∃ c : Cell, ∃ n', f__law_cell W [.drw, .lst ys] n = some (.ok (PyE.enc c), n') := by
  obtain ⟨d1, m1, e1⟩ := pick_ok W KL (by simp [KL]) n
  obtain ⟨d2, m2, e2⟩ := pick_ok W ys hy.1 (n + 1)
  obtain ⟨k, rfl⟩ := kl_mem d1 m1
  obtain ⟨y, rfl⟩ := hy.2 d2 m2
  refine ⟨⟨k, y⟩, n + 1 + 1, ?_⟩
  have e : (PyE.enc (⟨k, y⟩ : Cell) : D) = .tup [.str k.s, .str y.s] := rfl
  rw [e]
  unfold KL at e1
  simp only [f__law_cell, g__law_cell]
  simp [e1, e2]
theorem lword_ok (W : Wd) (m : Nat) (hm : m ≤ 100) (ys : List D) (hy : Ys ys) (n : Int) : ∃ w : Word, ∃ n', w.length ≤ m ∧ f__law_word W [.drw, .int m, .lst ys] n = some (.ok (encT w), n') := by
  obtain ⟨v, v0, v1, e1⟩ := take_ok W (m + 1) n (by omega)
  obtain ⟨j, rfl⟩ : ∃ j : Nat, v = (j : Int) := ⟨v.toNat, by omega⟩
  obtain ⟨xs, n', c, l⟩ := compD_ex (α := Cell) (compB [3] (gV 3) tYesD (eCall (f__law_cell W) (eCons (eVar 0) (eCons (eVar 2) eNil))) [.val .drw, .val (.int m), .val (.lst ys), .no]) ((List.range j).map fun i : Nat => D.int i) (n + 1) fun d _ n => by
    obtain ⟨c, n', e⟩ := lcell_ok W ys hy n
    refine ⟨c, n', ?_⟩
    generalize (PyE.enc c : D) = Z at *
    simp [e]
  rw [List.length_map, List.length_range] at l
  refine ⟨xs, n', by omega, ?_⟩
  have r := rng1 j (by omega)
  have z : (xs.map (PyE.enc : Cell → D)).length ≤ 16777216 := by rw [List.length_map]; omega
  have ml := mkLst_of z
  have tp : dTupOf [.lst (xs.map (PyE.enc : Cell → D))] = some (encT xs) := rfl
  generalize encT xs = Z at *
  generalize (xs.map (PyE.enc : Cell → D)) = B at *
  generalize ((List.range j).map fun i : Nat => D.int i) = A at *
  simp only [f__law_word, g__law_word]
  simp [e1, r, c, ml, tp]
end K47
end

section
set_option Elab.async false
set_option linter.all false
set_option autoImplicit false
set_option maxRecDepth 100000
namespace K47
open DL PySem L2 P_k47_whole_charts PyProof.Rows
def KT : D := .dic (tb_KINDS.map fun q => .inr q.1) (tb_KINDS.map (·.2))
def KK0 : SX := (sOwn 0 (.dic [] []))
def KK1 : SX := (sAsg (gV 1) (eC (.str "k 1 1 p k, p 1 1 k p, ktbl 1 1 ptbl ktbl, ptbl 1 1 ktbl ptbl, sl 1 1 slf sl, slf 1 1 sl slf, yo 0 1 yo yo, co 0 1 co co, bo 1 0 bo bo, kfb 1 2 pfb kfb, pfb 1 2 kfb pfb, m1l 0 1 m1lp m1r, m1r 0 1 m1rp m1l, m1lp 0 1 m1l m1rp, m1rp 0 1 m1r m1lp, k2tog 2 1 p2tog ssk, ssk 2 1 ssp k2tog, p2tog 2 1 k2tog ssp, ssp 2 1 ssk p2tog, cdd 3 1 cddp cdd, cddp 3 1 cdd cddp, c2f 2 2 c2fw c2b, c2b 2 2 c2bw c2f, c2fw 2 2 c2f c2bw, c2bw 2 2 c2b c2fw, c4f 4 4 c4fw c4b, c4b 4 4 c4bw c4f, c4fw 4 4 c4f c4bw, c4bw 4 4 c4b c4fw")))
def KK2b0 : SX := (sAsg (gV 3) (e2 dSplit (eVar 2) (eC (.str " "))))
def KK2b1 : SX := (sPut 0 (e2 dIx (eVar 3) (eC (.int 0))) (eTup (eCons (eB dIntA (eCons (e2 dIx (eVar 3) (eC (.int 1))) eNil)) (eCons (eB dIntA (eCons (e2 dIx (eVar 3) (eC (.int 2))) eNil)) (eCons (e2 dIx (eVar 3) (eC (.int 3))) (eCons (e2 dIx (eVar 3) (eC (.int 4))) eNil))))))
def KK2b : SX := (sSeq (KK2b0) (KK2b1))
def KK2 : SX := (sFor (gV 2) (iOf (e2 dSplit (eVar 1) (eC (.str ", ")))) KK2b)
def KK3 : SX := (sFrz 0)
def KK4 : SX := (sRet (eVar 0))
def KK : SX := (sSeq (KK0) (sSeq (KK1) (sSeq (KK2) (sSeq (KK3) (KK4)))))
theorem KK_eq : g__law_kinds = KK := rfl

def rt : List Str := ["k 1 1 p k", "p 1 1 k p", "ktbl 1 1 ptbl ktbl", "ptbl 1 1 ktbl ptbl", "sl 1 1 slf sl", "slf 1 1 sl slf", "yo 0 1 yo yo", "co 0 1 co co", "bo 1 0 bo bo", "kfb 1 2 pfb kfb", "pfb 1 2 kfb pfb", "m1l 0 1 m1lp m1r", "m1r 0 1 m1rp m1l", "m1lp 0 1 m1l m1rp", "m1rp 0 1 m1r m1lp", "k2tog 2 1 p2tog ssk", "ssk 2 1 ssp k2tog", "p2tog 2 1 k2tog ssp", "ssp 2 1 ssk p2tog", "cdd 3 1 cddp cdd", "cddp 3 1 cdd cddp", "c2f 2 2 c2fw c2b", "c2b 2 2 c2bw c2f", "c2fw 2 2 c2f c2bw", "c2bw 2 2 c2b c2fw", "c4f 4 4 c4fw c4b", "c4b 4 4 c4bw c4f", "c4fw 4 4 c4f c4bw", "c4bw 4 4 c4b c4fw"]
def KTx : D := .str ("k 1 1 p k, p 1 1 k p, ktbl 1 1 ptbl ktbl, ptbl 1 1 ktbl ptbl, sl 1 1 slf sl, slf 1 1 sl slf, yo 0 1 yo yo, co 0 1 co co, bo 1 0 bo bo, kfb 1 2 pfb kfb, pfb 1 2 kfb pfb, m1l 0 1 m1lp m1r, m1r 0 1 m1rp m1l, m1lp 0 1 m1l m1rp, m1rp 0 1 m1r m1lp, k2tog 2 1 p2tog ssk, ssk 2 1 ssp k2tog, p2tog 2 1 k2tog ssp, ssp 2 1 ssk p2tog, cdd 3 1 cddp cdd, cddp 3 1 cdd cddp, c2f 2 2 c2fw c2b, c2b 2 2 c2bw c2f, c2fw 2 2 c2f c2bw, c2bw 2 2 c2b c2fw, c4f 4 4 c4fw c4b, c4b 4 4 c4bw c4f, c4fw 4 4 c4f c4bw, c4bw 4 4 c4b c4fw" : Str)
def sp5 (i : Nat) : Sl := match i with
  | 1 => .val (.lst [.str "k", .str "1", .str "1", .str "p", .str "k"])
  | 2 => .val (.lst [.str "p", .str "1", .str "1", .str "k", .str "p"])
  | 3 => .val (.lst [.str "ktbl", .str "1", .str "1", .str "ptbl", .str "ktbl"])
  | 4 => .val (.lst [.str "ptbl", .str "1", .str "1", .str "ktbl", .str "ptbl"])
  | 5 => .val (.lst [.str "sl", .str "1", .str "1", .str "slf", .str "sl"])
  | 6 => .val (.lst [.str "slf", .str "1", .str "1", .str "sl", .str "slf"])
  | 7 => .val (.lst [.str "yo", .str "0", .str "1", .str "yo", .str "yo"])
  | 8 => .val (.lst [.str "co", .str "0", .str "1", .str "co", .str "co"])
  | 9 => .val (.lst [.str "bo", .str "1", .str "0", .str "bo", .str "bo"])
  | 10 => .val (.lst [.str "kfb", .str "1", .str "2", .str "pfb", .str "kfb"])
  | 11 => .val (.lst [.str "pfb", .str "1", .str "2", .str "kfb", .str "pfb"])
  | 12 => .val (.lst [.str "m1l", .str "0", .str "1", .str "m1lp", .str "m1r"])
  | 13 => .val (.lst [.str "m1r", .str "0", .str "1", .str "m1rp", .str "m1l"])
  | 14 => .val (.lst [.str "m1lp", .str "0", .str "1", .str "m1l", .str "m1rp"])
  | 15 => .val (.lst [.str "m1rp", .str "0", .str "1", .str "m1r", .str "m1lp"])
  | 16 => .val (.lst [.str "k2tog", .str "2", .str "1", .str "p2tog", .str "ssk"])
  | 17 => .val (.lst [.str "ssk", .str "2", .str "1", .str "ssp", .str "k2tog"])
  | 18 => .val (.lst [.str "p2tog", .str "2", .str "1", .str "k2tog", .str "ssp"])
  | 19 => .val (.lst [.str "ssp", .str "2", .str "1", .str "ssk", .str "p2tog"])
  | 20 => .val (.lst [.str "cdd", .str "3", .str "1", .str "cddp", .str "cdd"])
  | 21 => .val (.lst [.str "cddp", .str "3", .str "1", .str "cdd", .str "cddp"])
  | 22 => .val (.lst [.str "c2f", .str "2", .str "2", .str "c2fw", .str "c2b"])
  | 23 => .val (.lst [.str "c2b", .str "2", .str "2", .str "c2bw", .str "c2f"])
  | 24 => .val (.lst [.str "c2fw", .str "2", .str "2", .str "c2f", .str "c2bw"])
  | 25 => .val (.lst [.str "c2bw", .str "2", .str "2", .str "c2b", .str "c2fw"])
  | 26 => .val (.lst [.str "c4f", .str "4", .str "4", .str "c4fw", .str "c4b"])
  | 27 => .val (.lst [.str "c4b", .str "4", .str "4", .str "c4bw", .str "c4f"])
  | 28 => .val (.lst [.str "c4fw", .str "4", .str "4", .str "c4f", .str "c4bw"])
  | 29 => .val (.lst [.str "c4bw", .str "4", .str "4", .str "c4b", .str "c4fw"])
  | _ => .no
def s2 (i : Nat) : Sl := match i with
  | 1 => .val (.str "k 1 1 p k")
  | 2 => .val (.str "p 1 1 k p")
  | 3 => .val (.str "ktbl 1 1 ptbl ktbl")
  | 4 => .val (.str "ptbl 1 1 ktbl ptbl")
  | 5 => .val (.str "sl 1 1 slf sl")
  | 6 => .val (.str "slf 1 1 sl slf")
  | 7 => .val (.str "yo 0 1 yo yo")
  | 8 => .val (.str "co 0 1 co co")
  | 9 => .val (.str "bo 1 0 bo bo")
  | 10 => .val (.str "kfb 1 2 pfb kfb")
  | 11 => .val (.str "pfb 1 2 kfb pfb")
  | 12 => .val (.str "m1l 0 1 m1lp m1r")
  | 13 => .val (.str "m1r 0 1 m1rp m1l")
  | 14 => .val (.str "m1lp 0 1 m1l m1rp")
  | 15 => .val (.str "m1rp 0 1 m1r m1lp")
  | 16 => .val (.str "k2tog 2 1 p2tog ssk")
  | 17 => .val (.str "ssk 2 1 ssp k2tog")
  | 18 => .val (.str "p2tog 2 1 k2tog ssp")
  | 19 => .val (.str "ssp 2 1 ssk p2tog")
  | 20 => .val (.str "cdd 3 1 cddp cdd")
  | 21 => .val (.str "cddp 3 1 cdd cddp")
  | 22 => .val (.str "c2f 2 2 c2fw c2b")
  | 23 => .val (.str "c2b 2 2 c2bw c2f")
  | 24 => .val (.str "c2fw 2 2 c2f c2bw")
  | 25 => .val (.str "c2bw 2 2 c2b c2fw")
  | 26 => .val (.str "c4f 4 4 c4fw c4b")
  | 27 => .val (.str "c4b 4 4 c4bw c4f")
  | 28 => .val (.str "c4fw 4 4 c4f c4bw")
  | 29 => .val (.str "c4bw 4 4 c4b c4fw")
  | _ => .no
def KEn (i : Nat) (s : Sl) : DL.Env := [.own (.dic ((tb_KINDS.take i).map fun q => .inr q.1) ((tb_KINDS.take i).map (·.2))), .val KTx, s, sp5 i]
theorem ksplit : dSplit KTx (.str ", ") = some (.lst (rt.map .str)) := by kernel_rfl
theorem kst0 (n : Int) : KK2b (KEn 0 (s2 1)) n = some (.ok (.nx (KEn 1 (s2 1))), n) := by kernel_rfl
theorem kst1 (n : Int) : KK2b (KEn 1 (s2 2)) n = some (.ok (.nx (KEn 2 (s2 2))), n) := by kernel_rfl
theorem kst2 (n : Int) : KK2b (KEn 2 (s2 3)) n = some (.ok (.nx (KEn 3 (s2 3))), n) := by kernel_rfl
theorem kst3 (n : Int) : KK2b (KEn 3 (s2 4)) n = some (.ok (.nx (KEn 4 (s2 4))), n) := by kernel_rfl
theorem kst4 (n : Int) : KK2b (KEn 4 (s2 5)) n = some (.ok (.nx (KEn 5 (s2 5))), n) := by kernel_rfl
theorem kst5 (n : Int) : KK2b (KEn 5 (s2 6)) n = some (.ok (.nx (KEn 6 (s2 6))), n) := by kernel_rfl
theorem kst6 (n : Int) : KK2b (KEn 6 (s2 7)) n = some (.ok (.nx (KEn 7 (s2 7))), n) := by kernel_rfl
theorem kst7 (n : Int) : KK2b (KEn 7 (s2 8)) n = some (.ok (.nx (KEn 8 (s2 8))), n) := by kernel_rfl
theorem kst8 (n : Int) : KK2b (KEn 8 (s2 9)) n = some (.ok (.nx (KEn 9 (s2 9))), n) := by kernel_rfl
theorem kst9 (n : Int) : KK2b (KEn 9 (s2 10)) n = some (.ok (.nx (KEn 10 (s2 10))), n) := by kernel_rfl
theorem kst10 (n : Int) : KK2b (KEn 10 (s2 11)) n = some (.ok (.nx (KEn 11 (s2 11))), n) := by kernel_rfl
theorem kst11 (n : Int) : KK2b (KEn 11 (s2 12)) n = some (.ok (.nx (KEn 12 (s2 12))), n) := by kernel_rfl
theorem kst12 (n : Int) : KK2b (KEn 12 (s2 13)) n = some (.ok (.nx (KEn 13 (s2 13))), n) := by kernel_rfl
theorem kst13 (n : Int) : KK2b (KEn 13 (s2 14)) n = some (.ok (.nx (KEn 14 (s2 14))), n) := by kernel_rfl
theorem kst14 (n : Int) : KK2b (KEn 14 (s2 15)) n = some (.ok (.nx (KEn 15 (s2 15))), n) := by kernel_rfl
theorem kst15 (n : Int) : KK2b (KEn 15 (s2 16)) n = some (.ok (.nx (KEn 16 (s2 16))), n) := by kernel_rfl
theorem kst16 (n : Int) : KK2b (KEn 16 (s2 17)) n = some (.ok (.nx (KEn 17 (s2 17))), n) := by kernel_rfl
theorem kst17 (n : Int) : KK2b (KEn 17 (s2 18)) n = some (.ok (.nx (KEn 18 (s2 18))), n) := by kernel_rfl
theorem kst18 (n : Int) : KK2b (KEn 18 (s2 19)) n = some (.ok (.nx (KEn 19 (s2 19))), n) := by kernel_rfl
theorem kst19 (n : Int) : KK2b (KEn 19 (s2 20)) n = some (.ok (.nx (KEn 20 (s2 20))), n) := by kernel_rfl
theorem kst20 (n : Int) : KK2b (KEn 20 (s2 21)) n = some (.ok (.nx (KEn 21 (s2 21))), n) := by kernel_rfl
theorem kst21 (n : Int) : KK2b (KEn 21 (s2 22)) n = some (.ok (.nx (KEn 22 (s2 22))), n) := by kernel_rfl
theorem kst22 (n : Int) : KK2b (KEn 22 (s2 23)) n = some (.ok (.nx (KEn 23 (s2 23))), n) := by kernel_rfl
theorem kst23 (n : Int) : KK2b (KEn 23 (s2 24)) n = some (.ok (.nx (KEn 24 (s2 24))), n) := by kernel_rfl
theorem kst24 (n : Int) : KK2b (KEn 24 (s2 25)) n = some (.ok (.nx (KEn 25 (s2 25))), n) := by kernel_rfl
theorem kst25 (n : Int) : KK2b (KEn 25 (s2 26)) n = some (.ok (.nx (KEn 26 (s2 26))), n) := by kernel_rfl
theorem kst26 (n : Int) : KK2b (KEn 26 (s2 27)) n = some (.ok (.nx (KEn 27 (s2 27))), n) := by kernel_rfl
theorem kst27 (n : Int) : KK2b (KEn 27 (s2 28)) n = some (.ok (.nx (KEn 28 (s2 28))), n) := by kernel_rfl
theorem kst28 (n : Int) : KK2b (KEn 28 (s2 29)) n = some (.ok (.nx (KEn 29 (s2 29))), n) := by kernel_rfl
theorem forD_step {g : GX} {b : SX} {d : D} {ds : List D} {ρ ρ1 ρ2 : DL.Env} {n : Int} {r : Option (Except Xc Out × Int)} (h1 : g d ρ = some ρ1) (h2 : b ρ1 n = some (.ok (.nx ρ2), n)) (h3 : forD g b ds ρ2 n = r) : forD g b (d :: ds) ρ n = r := by
  rw [forD_cons]; simp [h1, h2, h3]
theorem kloop (n : Int) : forD (gV 2) KK2b (rt.map .str) (KEn 0 .no) n = some (.ok (.nx (KEn 29 (s2 29))), n) :=
  forD_step (ρ1 := KEn 0 (s2 1)) rfl (kst0 n) (forD_step (ρ1 := KEn 1 (s2 2)) rfl (kst1 n) (forD_step (ρ1 := KEn 2 (s2 3)) rfl (kst2 n) (forD_step (ρ1 := KEn 3 (s2 4)) rfl (kst3 n) (forD_step (ρ1 := KEn 4 (s2 5)) rfl (kst4 n) (forD_step (ρ1 := KEn 5 (s2 6)) rfl (kst5 n) (forD_step (ρ1 := KEn 6 (s2 7)) rfl (kst6 n) (forD_step (ρ1 := KEn 7 (s2 8)) rfl (kst7 n) (forD_step (ρ1 := KEn 8 (s2 9)) rfl (kst8 n) (forD_step (ρ1 := KEn 9 (s2 10)) rfl (kst9 n) (forD_step (ρ1 := KEn 10 (s2 11)) rfl (kst10 n) (forD_step (ρ1 := KEn 11 (s2 12)) rfl (kst11 n) (forD_step (ρ1 := KEn 12 (s2 13)) rfl (kst12 n) (forD_step (ρ1 := KEn 13 (s2 14)) rfl (kst13 n) (forD_step (ρ1 := KEn 14 (s2 15)) rfl (kst14 n) (forD_step (ρ1 := KEn 15 (s2 16)) rfl (kst15 n) (forD_step (ρ1 := KEn 16 (s2 17)) rfl (kst16 n) (forD_step (ρ1 := KEn 17 (s2 18)) rfl (kst17 n) (forD_step (ρ1 := KEn 18 (s2 19)) rfl (kst18 n) (forD_step (ρ1 := KEn 19 (s2 20)) rfl (kst19 n) (forD_step (ρ1 := KEn 20 (s2 21)) rfl (kst20 n) (forD_step (ρ1 := KEn 21 (s2 22)) rfl (kst21 n) (forD_step (ρ1 := KEn 22 (s2 23)) rfl (kst22 n) (forD_step (ρ1 := KEn 23 (s2 24)) rfl (kst23 n) (forD_step (ρ1 := KEn 24 (s2 25)) rfl (kst24 n) (forD_step (ρ1 := KEn 25 (s2 26)) rfl (kst25 n) (forD_step (ρ1 := KEn 26 (s2 27)) rfl (kst26 n) (forD_step (ρ1 := KEn 27 (s2 28)) rfl (kst27 n) (forD_step (ρ1 := KEn 28 (s2 29)) rfl (kst28 n) (rfl)))))))))))))))))))))))))))))
theorem kinds_ok (n : Int) : f__law_kinds [] n = some (.ok KT, n) := by
  have h : KK2 (KEn 0 .no) n = some (.ok (.nx (KEn 29 (s2 29))), n) := by
    show sFor (gV 2) (iOf (e2 dSplit (eVar 1) (eC (.str ", ")))) KK2b (KEn 0 .no) n = _
    rw [sFor_ap]
    have e : iOf (e2 dSplit (eVar 1) (eC (.str ", "))) (KEn 0 .no) n = some (.ok (rt.map .str), n) := by
      unfold KEn
      simp [ksplit]
    rw [bind_ap, e]
    exact kloop n
  show M.bind (g__law_kinds _) runK n = _
  rw [KK_eq, bind_ap]
  have h0 : KK [.no, .no, .no, .no] n = some (.ok (.ret KT), n) := by
    show sSeq KK0 (sSeq KK1 (sSeq KK2 _)) _ n = _
    exact seq_go (ρ1 := [.own (.dic [] []), .no, .no, .no]) (n1 := n) rfl (seq_go (ρ1 := KEn 0 .no) (n1 := n) rfl (seq_go h rfl))
  show bindR (KK [.no, .no, .no, .no] n) runK = _
  rw [h0]
  rfl
end K47
end

section
set_option Elab.async false
set_option linter.all false
set_option autoImplicit false
set_option maxRecDepth 100000
namespace K47
open DL PySem L2 P_k47_whole_charts PyProof.Rows
/-! ### least costs step by step -/
structure Inv (P : Nat → Nat → Int → Prop) (s : Nat → Option Int) : Prop where
  z : s 0 = some 0
  le : ∀ l h c, P l h c → ∃ u v, s h = some u ∧ s l = some v ∧ u ≤ v + c
  wit : ∀ h u, s h = some u → h = 0 ∨ ∃ l c v, P l h c ∧ s l = some v ∧ u = v + c
def relax (s : Nat → Option Int) (h : Nat) (x : Int) : Nat → Option Int := fun j => if j = h then (match s h with | none => some x | some u => some (if x < u then x else u)) else s j
theorem relax_ne {s : Nat → Option Int} {h j : Nat} {x : Int} (e : j ≠ h) : relax s h x j = s j := if_neg e
theorem relax_eq {s : Nat → Option Int} {h : Nat} {x : Int} : ∃ u, relax s h x h = some u ∧ u ≤ x ∧ (∀ w, s h = some w → u ≤ w) ∧ (u = x ∨ s h = some u) := by
  unfold relax
  rw [if_pos rfl]
  cases e : s h with
  | none => exact ⟨x, rfl, Int.le_refl _, (fun w hw => by cases hw), .inl rfl⟩
  | some u =>
    by_cases hx : x < u
    · refine ⟨x, by simp [hx], Int.le_refl _, fun w hw => ?_, .inl rfl⟩
      cases hw; omega
    · refine ⟨u, by simp [hx], by omega, fun w hw => ?_, .inr rfl⟩
      cases hw; omega
theorem Inv.relax {P : Nat → Nat → Int → Prop} {s : Nat → Option Int} {low h : Nat} {c v : Int} (I : Inv P s) (hP : ∀ l h c, P l h c → l < h ∧ l ≤ low) (hl : low < h) (hv : s low = some v) :
    Inv (fun l h' c' => P l h' c' ∨ (l = low ∧ h' = h ∧ c' = c)) (relax s h (v + c)) where
  z := by rw [relax_ne (by omega)]; exact I.z
  le := fun l h' c' q => by
    obtain ⟨u0, r1, r2, r3, r4⟩ := relax_eq (s := s) (h := h) (x := v + c)
    rcases q with q | ⟨rfl, rfl, rfl⟩
    · have a := hP l h' c' q
      obtain ⟨u, w, k1, k2, k3⟩ := I.le l h' c' q
      by_cases e : h' = h
      · subst e
        exact ⟨u0, w, r1, by rw [relax_ne (by omega)]; exact k2, by have := r3 u k1; omega⟩
      · exact ⟨u, w, by rw [relax_ne e]; exact k1, by rw [relax_ne (by omega)]; exact k2, k3⟩
    · exact ⟨u0, v, r1, by rw [relax_ne (by omega)]; exact hv, r2⟩
  wit := fun h' u q => by
    by_cases e : h' = h
    · subst e
      obtain ⟨u0, r1, r2, r3, r4⟩ := relax_eq (s := s) (h := h') (x := v + c)
      rw [r1] at q
      cases q
      rcases r4 with r4 | r4
      · exact .inr ⟨low, c, v, .inr ⟨rfl, rfl, rfl⟩, by rw [relax_ne (by omega)]; exact hv, r4⟩
      · rcases I.wit h' u r4 with k | ⟨l, c', w, k1, k2, k3⟩
        · exact .inl k
        · exact .inr ⟨l, c', w, .inl k1, by rw [relax_ne (by have := hP _ _ _ k1; omega)]; exact k2, k3⟩
    · rw [relax_ne e] at q
      rcases I.wit h' u q with k | ⟨l, c', w, k1, k2, k3⟩
      · exact .inl k
      · exact .inr ⟨l, c', w, .inl k1, by rw [relax_ne (by have := hP _ _ _ k1; omega)]; exact k2, k3⟩
theorem Inv.congr {P P' : Nat → Nat → Int → Prop} {s : Nat → Option Int} (I : Inv P s) (h : ∀ l h c, P l h c ↔ P' l h c) : Inv P' s where
  z := I.z
  le := fun l h' c q => I.le l h' c ((h l h' c).mpr q)
  wit := fun h' u q => by
    rcases I.wit h' u q with k | ⟨l, c, v, k1, k2⟩
    · exact .inl k
    · exact .inr ⟨l, c, v, (h l h' c).mp k1, k2⟩
theorem Inv.uniq {P : Nat → Nat → Int → Prop} {s t : Nat → Option Int} {n : Nat} (I : Inv P s) (J : Inv P t) (hP : ∀ l h c, P l h c → l < h) (hs : ∀ h, h ≤ n → (s h).isSome) (ht : ∀ h, h ≤ n → (t h).isSome) : ∀ h, h ≤ n → s h = t h := by
  intro h
  induction h using Nat.strongRecOn with
  | _ h ih =>
    intro hn
    obtain ⟨u, hu⟩ := Option.isSome_iff_exists.mp (hs h hn)
    obtain ⟨u', hu'⟩ := Option.isSome_iff_exists.mp (ht h hn)
    have a : u' ≤ u := by
      rcases I.wit h u hu with k | ⟨l, c, v, k1, k2, k3⟩
      · subst k; have := I.z; have := J.z; simp_all
      · have hl := hP _ _ _ k1
        obtain ⟨u2, v2, m1, m2, m3⟩ := J.le l h c k1
        have e := ih l hl (by omega)
        rw [k2, m2] at e
        cases e
        rw [hu'] at m1
        cases m1
        omega
    have b : u ≤ u' := by
      rcases J.wit h u' hu' with k | ⟨l, c, v, k1, k2, k3⟩
      · subst k; have := I.z; have := J.z; simp_all
      · have hl := hP _ _ _ k1
        obtain ⟨u2, v2, m1, m2, m3⟩ := I.le l h c k1
        have e := ih l hl (by omega)
        rw [k2, m2] at e
        cases e
        rw [hu] at m1
        cases m1
        omega
    rw [hu, hu', Int.le_antisymm b a]
/-! ### rows, parts -/
def Kd.m : Kd → Nat
  | .k => 1 | .p => 1 | .sl => 1 | .yo => 1 | .k2tog => 1 | .ssk => 1 | .kfb => 2 | .m1l => 1 | .c2f => 2 | .ktbl => 1 | .p2tog => 1 | .bo => 0
def M (w : Word) : Nat := (w.map fun c => c.k.m).sum
theorem M_app (a b : Word) : K47.M (a ++ b) = K47.M a + K47.M b := by unfold K47.M; rw [List.map_append, List.sum_append]
def rc : Row → Int
  | [b, g, a] => RC b g a
  | _ => 0
def evR : Row → Bool
  | [_, g, _] => decide (K47.T g = K47.M g)
  | _ => false
def chg : Row → Int
  | [b, _, a] => (K47.M b : Int) + K47.M a - K47.T b - K47.T a
  | _ => 0
/-- a row -/
def Ow (r : Row) : Prop := ∃ b g a, r = rw3 b g a ∧ rowB b g a = true
theorem rowB_len {b g a : Word} (h : rowB b g a = true) : b.length ≤ 60 ∧ g.length ≤ 30 ∧ a.length ≤ 60 := by
  unfold rowB at h
  simp only [Bool.and_eq_true, decide_eq_true_eq] at h
  exact ⟨h.1.1.1, h.1.1.2, h.1.2⟩
theorem rc_ok {r : Row} (h : Ow r) (n : Int) : f_row_cost [PyE.enc r] n = some (.ok (.int (rc r)), n) := by
  obtain ⟨b, g, a, rfl, hb⟩ := h
  obtain ⟨h1, h2, h3⟩ := rowB_len hb
  exact row_cost_ok b g a (by omega) (by omega) (by omega) n
theorem lrc_ok {r : Row} (h : Ow r) (n : Int) : f__law_cost [PyE.enc r] n = some (.ok (.int (rc r)), n) := by
  obtain ⟨b, g, a, rfl, hb⟩ := h
  obtain ⟨h1, h2, h3⟩ := rowB_len hb
  exact law_cost_ok b g a (by omega) (by omega) (by omega) n
theorem C_le (w : Word) : ∀ (m low : Nat), 1 ≤ m → low + m ≤ w.length → C w m low ≤ m
  | 0, _, h, _ => by omega
  | 1, low, h, hl => by
    rw [C_eq w 1 low h hl]
    refine (minL_spec ?_).2 1 ?_
    · unfold prices; simp
    · unfold prices; simp
  | m + 2, low, h, hl => by
    rw [C_eq w (m + 2) low h hl]
    have a := C_le w 1 low (by omega) (by omega)
    have b := C_le w (m + 1) (low + 1) (by omega) (by omega)
    have mem : C w 1 low + C w (m + 1) (low + 1) ∈ prices w (C w) (m + 2) low := by
      unfold prices
      refine List.mem_append_left _ (List.mem_append_left _ (List.mem_map.mpr ⟨0, List.mem_range.mpr (by omega), ?_⟩))
      show C w (0 + 1) low + C w (m + 2 - (0 + 1)) (low + (0 + 1)) = _
      rw [show m + 2 - (0 + 1) = m + 1 by omega]
    have := (minL_spec (List.ne_nil_of_mem mem)).2 _ mem
    omega
theorem K_le (w : Word) : K w ≤ w.length := by
  unfold K
  split
  · omega
  · rename_i h
    exact C_le w w.length 0 (List.length_pos_iff.mpr h) (by omega)
theorem rc_le {r : Row} (h : Ow r) : rc r ≤ 152 := by
  obtain ⟨b, g, a, rfl, hb⟩ := h
  obtain ⟨h1, h2, h3⟩ := rowB_len hb
  have k1 := K_le b
  have k2 := K_le g
  have k3 := K_le a
  show RC b g a ≤ 152
  unfold RC
  split <;> omega
inductive Part where
  | row (r : Row)
  | blk (t : Nat) (rs : List Row)
def pD : Part → D
  | .row r => .tup [.str "row", PyE.enc r]
  | .blk t rs => .tup [.str "block", .tup [.int t, .int 0], encT rs]
def prs : Part → List Row
  | .row r => [r]
  | .blk _ rs => rs
def pun : Part → List Row
  | .row r => [r]
  | .blk t rs => pw rs t
def pc : Part → Int
  | .row r => 1 + ([r].map rc).sum
  | .blk _ rs => 2 + (rs.map rc).sum
/-- a part of the written form -/
def Op : Part → Prop
  | .row r => Ow r
  | .blk t rs => 2 ≤ t ∧ t ≤ 99 ∧ 1 ≤ rs.length ∧ rs.length ≤ 20 ∧ (∀ r ∈ rs, Ow r) ∧ rs.all evR = true ∧ -12 ≤ (rs.map chg).sum ∧ (rs.map chg).sum ≤ 12
def inn (rows : List Row) (low many : Nat) : List Row := (rows.drop low).take many
/-- the block of so many rows, so many rounds may stand at a place -/
structure BE (rows : List Row) (low many t : Nat) : Prop where
  m1 : 1 ≤ many
  t2 : 2 ≤ t
  fit : low + many * t ≤ rows.length
  ev : (inn rows low many).all evR = true
  lo : -12 ≤ ((inn rows low many).map chg).sum
  hi : ((inn rows low many).map chg).sum ≤ 12
  eq : pw (inn rows low many) t = inn rows low (many * t)
inductive E (rows : List Row) (low : Nat) : Part → Nat → Prop
  | row {r : Row} : rows[low]? = some r → E rows low (.row r) (low + 1)
  | blk {many t : Nat} : BE rows low many t → E rows low (.blk t (inn rows low many)) (low + many * t)
theorem inn_len {rows : List Row} {low many : Nat} (h : low + many ≤ rows.length) : (inn rows low many).length = many := by
  unfold inn; rw [List.length_take, List.length_drop]; omega
theorem mem_inn {rows : List Row} {low many : Nat} {r : Row} (h : r ∈ inn rows low many) : r ∈ rows := List.mem_of_mem_drop (List.mem_of_mem_take h)
theorem E.lt {rows : List Row} {low h : Nat} {p : Part} (e : E rows low p h) : low < h ∧ h ≤ rows.length := by
  cases e with
  | row k =>
    have := (List.getElem?_eq_some_iff.mp k).1
    omega
  | @blk m t k =>
    have := k.m1
    have := k.t2
    have := k.fit
    have : 1 * 1 ≤ m * t := Nat.mul_le_mul (by omega) (by omega)
    omega
theorem E.op {rows : List Row} {low h : Nat} {p : Part} (e : E rows low p h) (hr : ∀ r ∈ rows, Ow r) (hl : rows.length ≤ 20) : Op p := by
  cases e with
  | row k => exact hr _ (List.mem_of_getElem? k)
  | @blk m t k =>
    have f := k.fit
    have a : 1 * t ≤ m * t := Nat.mul_le_mul k.m1 (Nat.le_refl _)
    have b : m * 1 ≤ m * t := Nat.mul_le_mul (Nat.le_refl _) (by have := k.t2; omega)
    have l := inn_len (rows := rows) (low := low) (many := m) (by omega)
    exact ⟨k.t2, by omega, by rw [l]; exact k.m1, by rw [l]; omega, fun r hr' => hr r (mem_inn hr'), k.ev, k.lo, k.hi⟩
theorem E.un {rows : List Row} {low h : Nat} {p : Part} (e : E rows low p h) : rows.take low ++ pun p = rows.take h := by
  cases e with
  | row k =>
    show rows.take low ++ [_] = _
    rw [List.take_succ, k]
    rfl
  | blk k =>
    show rows.take low ++ pw _ _ = _
    rw [k.eq]
    unfold inn
    rw [List.take_add]
theorem sum_le (k : Int) : ∀ xs : List Row, (∀ r ∈ xs, rc r ≤ k) → (xs.map rc).sum ≤ xs.length * k
  | [], _ => by simp
  | x :: xs, h => by
    have a := h x List.mem_cons_self
    have b := sum_le k xs fun y hy => h y (List.mem_cons_of_mem _ hy)
    rw [List.map_cons, List.sum_cons, List.length_cons]
    have : ((xs.length + 1 : Nat) : Int) * k = xs.length * k + k := by rw [Int.natCast_add, Int.add_mul]; simp
    omega
theorem pc_le {p : Part} (h : Op p) : pc p ≤ 4000 := by
  cases p with
  | row r =>
    have := rc_le h
    show 1 + ([r].map rc).sum ≤ _
    simp
    omega
  | blk t rs =>
    obtain ⟨_, _, _, h4, h5, _⟩ := h
    have := sum_le 152 rs fun r hr => rc_le (h5 r hr)
    show 2 + (rs.map rc).sum ≤ _
    omega
/-- the edges that are done before a place -/
def PE0 (rows : List Row) (low : Nat) : Nat → Nat → Int → Prop := fun l h c => l < low ∧ ∃ p, E rows l p h ∧ c = pc p
theorem PE0.lt {rows : List Row} {low : Nat} : ∀ l h c, PE0 rows low l h c → l < h ∧ l < low := fun l h c ⟨a, p, e, _⟩ => ⟨e.lt.1, a⟩
theorem inv0 (rows : List Row) : Inv (PE0 rows 0) (fun h => if h = 0 then some 0 else none) where
  z := rfl
  le := fun l h c q => by have := q.1; omega
  wit := fun h u q => by
    by_cases e : h = 0
    · exact .inl e
    · rw [if_neg e] at q; cases q
/-- what is told up to a place, and no more than so much -/
theorem inv_at {rows : List Row} {low : Nat} {P : Nat → Nat → Int → Prop} {s : Nat → Option Int} (I : Inv P s) (hP : ∀ l h c, PE0 rows low l h c → P l h c) (hr : ∀ r ∈ rows, Ow r) : ∀ k, k ≤ low → k ≤ rows.length → ∃ v, s k = some v ∧ v ≤ ((rows.take k).map fun r => 1 + rc r).sum ∧ ((rows.take k).map fun r => 1 + rc r).sum ≤ 153 * k
  | 0, _, _ => ⟨0, I.z, by simp, by simp⟩
  | k + 1, h, h2 => by
    obtain ⟨v, h3, h4, h5⟩ := inv_at I hP hr k (by omega) (by omega)
    have hk : rows[k]? = some rows[k] := by simp
    obtain ⟨u, v', a1, a2, a3⟩ := I.le k (k + 1) _ (hP k (k + 1) _ ⟨by omega, _, E.row hk, rfl⟩)
    rw [h3] at a2
    cases a2
    have e : pc (.row rows[k]) = 1 + rc rows[k] := by show 1 + ([rows[k]].map rc).sum = _; simp
    have s1 : ((rows.take (k + 1)).map fun r => 1 + rc r).sum = ((rows.take k).map fun r => 1 + rc r).sum + (1 + rc rows[k]) := by
      rw [List.take_succ, hk, List.map_append, List.sum_append]
      simp
    have := rc_le (hr rows[k] (List.getElem_mem (by omega)))
    refine ⟨u, a1, by rw [s1]; omega, by rw [s1]; omega⟩
end K47
end

section
set_option Elab.async false
set_option linter.all false
set_option autoImplicit false
set_option maxRecDepth 100000
namespace K47
open DL PySem L2 P_k47_whole_charts PyProof.Rows
/-! ### the small functions -/
theorem mk_ok (k : Kd) : (dIxK tb_KINDS (.str k.s)).bind (fun x => dIx x (.int 1)) = some (.int k.m) := by cases k <;> kernel_rfl
theorem makes_ok (w : Word) (hl : w.length ≤ 1000) (n : Int) : f_makes [encT w] n = some (.ok (.int (K47.M w)), n) := by
  have c := comp_all (PyE.enc : Cell → D) (compB [1, 2] (gT (gsC (gV 1) (gsC (gV 2) gsN))) tYesD (e2 dIx (e1 (dIxK tb_KINDS) (eVar 1)) (eC (.int 1))) [.val (encT w), .no, .no]) (fun c => .int (c.k.m : Nat)) n w fun x _ => by
    have h := mk_ok x.k
    have e : (PyE.enc x : D) = .tup [.str x.k.s, .str x.y.s] := rfl
    rw [e]
    cases hk : dIxK tb_KINDS (.str x.k.s) with
    | none => rw [hk] at h; cases h
    | some d =>
      rw [hk, Option.bind_some] at h
      simp [hk, h]
  have a := sum_nat (w.map fun c => c.k.m)
  rw [List.map_map] at a
  have z := z_small w (fun c : Cell => D.int (c.k.m : Nat)) (by omega)
  have it : dItems (encT w) = some (w.map PyE.enc) := rfl
  have a : dSum [.lst (w.map fun c : Cell => D.int (c.k.m : Nat))] = some (.int (K47.M w)) := a
  generalize (w.map fun c : Cell => D.int (c.k.m : Nat)) = B at *
  generalize (w.map (PyE.enc : Cell → D)) = A at *
  generalize encT w = Z at *
  simp only [f_makes, g_makes]
  simp [it, c, mkLst_of z, a]
theorem isrow_ok {r : Row} (h : Ow r) (n : Int) : f_is_row [PyE.enc r] n = some (.ok (.bl true), n) := by
  obtain ⟨b, g, a, rfl, hb⟩ := h
  obtain ⟨h1, h2, h3⟩ := rowB_len hb
  have := is_row_ok b g a (by omega) (by omega) (by omega) n
  rw [hb] at this
  exact this
theorem even_ok {r : Row} (h : Ow r) (n : Int) : f_is_even [PyE.enc r] n = some (.ok (.bl (evR r)), n) := by
  obtain ⟨b, g, a, rfl, hb⟩ := h
  obtain ⟨h1, h2, h3⟩ := rowB_len hb
  have t := takes_ok g (by omega) n
  have m := makes_ok g (by omega) n
  have ev : evR (rw3 b g a) = decide (K47.T g = K47.M g) := rfl
  rw [ev]
  show f_is_even [rD b g a] n = _
  unfold rD
  generalize encT b = B at *
  generalize encT g = G at *
  generalize encT a = A at *
  have x1 : dIx (.tup [B, G, A]) (.int 1) = some G := rfl
  have : decide ((K47.T g : Int) = K47.M g) = decide (K47.T g = K47.M g) := decide_eq_decide.mpr (by omega)
  rw [← this]
  simp only [f_is_even, g_is_even]
  simp [x1, t, m]
theorem change_ok {r : Row} (h : Ow r) (n : Int) : f_change_of [PyE.enc r] n = some (.ok (.int (chg r)), n) := by
  obtain ⟨b, g, a, rfl, hb⟩ := h
  obtain ⟨h1, h2, h3⟩ := rowB_len hb
  have t1 := takes_ok b (by omega) n
  have m1 := makes_ok b (by omega) n
  have t2 := takes_ok a (by omega) n
  have m2 := makes_ok a (by omega) n
  have ev : chg (rw3 b g a) = (K47.M b : Int) + K47.M a - K47.T b - K47.T a := rfl
  rw [ev]
  show f_change_of [rD b g a] n = _
  unfold rD
  generalize encT b = B at *
  generalize encT g = G at *
  generalize encT a = A at *
  have x1 : dIx (.tup [B, G, A]) (.int 0) = some B := rfl
  have x2 : dIx (.tup [B, G, A]) (.int 2) = some A := rfl
  simp only [f_change_of, g_change_of]
  simp [x1, x2, t1, m1, t2, m2]
theorem sum_int (ns : List Int) : dSum [.lst (ns.map D.int)] = some (.int ns.sum) := by
  unfold dSum
  simp only [ints_int]
theorem sum_map {α : Type} (f : α → Int) (xs : List α) : dSum [.lst (xs.map fun r => D.int (f r))] = some (.int (xs.map f).sum) := by
  have := sum_int (xs.map f)
  rw [List.map_map] at this
  exact this
/-- a sum over rows -/
theorem sum_run (v : Nat) (f : FX) (F : Row → Int) (it : IX) (ρ : DL.Env) (rs : List Row) (hl : rs.length ≤ 1000) (hf : ∀ r ∈ rs, ∀ n, f [PyE.enc r] n = some (.ok (.int (F r)), n)) (n : Int) (hi : it ρ n = some (.ok (rs.map PyE.enc), n)) (hv : ∀ d : D, eVar v ((hide (wipeD ρ [v])).set v (.val d)) n = some (.ok d, n)) :
    eB dSum (eCons (eComp [v] (gV v) it tYesD (eCall f (eCons (eVar v) eNil))) eNil) ρ n = some (.ok (.int (rs.map F).sum), n) := by
  have c := comp_all (PyE.enc : Row → D) (compB [v] (gV v) tYesD (eCall f (eCons (eVar v) eNil)) ρ) (fun r => D.int (F r)) n rs fun r hr => by
    have e := hf r hr n
    have x := hv (PyE.enc r)
    rw [compB_ap, gV_ap, bind_ap, opt_some, bindR_ok]
    generalize (PyE.enc r : D) = Z at *
    generalize (hide (wipeD ρ [v])).set v (.val Z) = ρ1 at *
    simp [x, e]
  have z : (rs.map fun r => D.int (F r)).length ≤ 16777216 := by rw [List.length_map]; omega
  have ml := mkLst_of z
  have s := sum_map F rs
  generalize (rs.map fun r => D.int (F r)) = B at *
  generalize (rs.map (PyE.enc : Row → D)) = A at *
  generalize (rs.map F).sum = S at *
  have : eComp [v] (gV v) it tYesD (eCall f (eCons (eVar v) eNil)) ρ n = some (.ok (.lst B), n) := by
    rw [eComp_ap, bind_ap, hi, bindR_ok, bind_ap, calm_ap, c, calmR_ok, bindR_ok, ml, opt_some]
  generalize eComp [v] (gV v) it tYesD (eCall f (eCons (eVar v) eNil)) = CC at *
  simp [this, s]
/-- an all over rows -/
theorem all_run (v : Nat) (e0 : EX) (F : Row → Bool) (it : IX) (ρ : DL.Env) (rs : List Row) (hl : rs.length ≤ 1000) (n : Int) (hf : ∀ r ∈ rs, e0 ((hide (wipeD ρ [v])).set v (.val (PyE.enc r))) n = some (.ok (.bl (F r)), n)) (hi : it ρ n = some (.ok (rs.map PyE.enc), n)) :
    eB dAll (eCons (eComp [v] (gV v) it tYesD e0) eNil) ρ n = some (.ok (.bl (rs.all F)), n) := by
  have c := comp_all (PyE.enc : Row → D) (compB [v] (gV v) tYesD e0 ρ) (fun r => D.bl (F r)) n rs fun r hr => by
    have e := hf r hr
    rw [compB_ap, gV_ap, bind_ap, opt_some, bindR_ok]
    generalize (hide (wipeD ρ [v])).set v (.val (PyE.enc r)) = ρ1 at *
    simp [e]
  have z : (rs.map fun r => D.bl (F r)).length ≤ 16777216 := by rw [List.length_map]; omega
  have ml := mkLst_of z
  have s := all_map F rs
  generalize (rs.map fun r => D.bl (F r)) = B at *
  generalize (rs.map (PyE.enc : Row → D)) = A at *
  generalize rs.all F = S at *
  have : eComp [v] (gV v) it tYesD e0 ρ n = some (.ok (.lst B), n) := by
    rw [eComp_ap, bind_ap, hi, bindR_ok, bind_ap, calm_ap, c, calmR_ok, bindR_ok, ml, opt_some]
  generalize eComp [v] (gV v) it tYesD e0 = CC at *
  simp [this, s]
theorem is_line_ok (t : Nat) (h : t ≤ 99) (n : Int) : f_is_line [.tup [.int t, .int 0]] n = some (.ok (.bl true), n) := by
  have nm : ∀ i : Int, f_is_number [.int i] n = some (.ok (.bl true), n) := fun i => by
    have a : dIsi "int" (.int i) = some (.bl true) := rfl
    have b : dIsi "bool" (.int i) = some (.bl false) := rfl
    simp only [f_is_number, g_is_number]
    simp [a, b]
  have i1 : dIsi "tuple" (.tup [.int (t : Int), .int 0]) = some (.bl true) := rfl
  have x0 : dIx (.tup [.int (t : Int), .int 0]) (.int 0) = some (.int t) := rfl
  have x1 : dIx (.tup [.int (t : Int), .int 0]) (.int 1) = some (.int 0) := rfl
  have l : dLen [.tup [.int (t : Int), .int 0]] = some (.int 2) := rfl
  have ab : dAbs [.int (t : Int)] = some (.int t) := by
    show some (D.int (if (t : Int) < 0 then -t else t)) = _
    rw [if_neg (by omega)]
  have ab0 : dAbs [.int 0] = some (.int 0) := rfl
  have le1 : dLeA (.int (t : Int)) (.int 99) = some (.bl true) := by
    show some (D.bl (decide ((t : Int) ≤ 99))) = _
    rw [decide_eq_true (by omega)]
  have le2 : dLeA (.int 0) (.int 9) = some (.bl true) := rfl
  generalize (D.tup [.int (t : Int), .int 0]) = Z at *
  have nt := nm t
  have n0 := nm 0
  generalize (D.int (t : Int)) = TT at *
  simp only [f_is_line, g_is_line]
  simp [i1, x0, x1, l, ab, ab0, le1, le2, nt, n0]
theorem s_rr : dEq (.str "row") (.str "row") = some (.bl true) := by kernel_rfl
theorem s_br : dEq (.str "block") (.str "row") = some (.bl false) := by kernel_rfl
theorem s_bb : dEq (.str "block") (.str "block") = some (.bl true) := by kernel_rfl
theorem s_rb : dEq (.str "row") (.str "block") = some (.bl false) := by kernel_rfl
theorem n_bb : dNe (.str "block") (.str "block") = some (.bl false) := by kernel_rfl
def absI (i : Int) : Int := if i < 0 then -i else i
theorem absI_le {i k : Int} : absI i ≤ k ↔ -k ≤ i ∧ i ≤ k := by unfold absI; split <;> omega
theorem is_part_row {r : Row} (h : Ow r) (n : Int) : f_is_part [pD (.row r)] n = some (.ok (.bl true), n) := by
  have k := isrow_ok h n
  show f_is_part [.tup [.str "row", PyE.enc r]] n = _
  generalize (PyE.enc r : D) = Z at *
  have i1 : dIsi "tuple" (.tup [.str "row", Z]) = some (.bl true) := rfl
  have x0 : dIx (.tup [.str "row", Z]) (.int 0) = some (.str "row") := rfl
  have x1 : dIx (.tup [.str "row", Z]) (.int 1) = some Z := rfl
  have l : dLen [.tup [.str "row", Z]] = some (.int 2) := rfl
  generalize (D.tup [.str "row", Z]) = Y at *
  simp only [f_is_part, g_is_part]
  simp [i1, x0, x1, l, s_rr, k]
theorem is_part_blk {t : Nat} {rs : List Row} (h1 : t ≤ 99) (h2 : 1 ≤ rs.length) (h3 : rs.length ≤ 20) (h4 : ∀ r ∈ rs, Ow r) (h5 : rs.all evR = true) (n : Int) : f_is_part [pD (.blk t rs)] n = some (.ok (.bl (decide (absI (rs.map chg).sum ≤ 12))), n) := by
  have ln := is_line_ok t h1 n
  show f_is_part [.tup [.str "block", .tup [.int t, .int 0], encT rs]] n = _
  have i2 : dIsi "tuple" (encT rs) = some (.bl true) := rfl
  have it : dItems (encT rs) = some (rs.map PyE.enc) := rfl
  have lr := dLen_T rs
  have c1 : dLeA (.int 1) (.int (rs.length : Int)) = some (.bl true) := by
    show some (D.bl (decide (1 ≤ (rs.length : Int)))) = _
    rw [decide_eq_true (by omega)]
  have c2 : dLeA (.int (rs.length : Int)) (.int 20) = some (.bl true) := by
    show some (D.bl (decide ((rs.length : Int) ≤ 20))) = _
    rw [decide_eq_true (by omega)]
  have A := fun (x : D) (hx : dIx x (.int 2) = some (encT rs)) => all_run 1 (eAnd (eCall (f_is_row) (eCons (eVar 1) eNil)) (eCall (f_is_even) (eCons (eVar 1) eNil))) evR (iOf (e2 dIx (eVar 0) (eC (.int 2)))) [.val x, .no] rs (by omega) n (fun r hr => by
    have e1 := isrow_ok (h4 r hr) n
    have e2 := even_ok (h4 r hr) n
    generalize (PyE.enc r : D) = Z at *
    simp [e1, e2]) (by simp [hx, it])
  have S := fun (x : D) (hx : dIx x (.int 2) = some (encT rs)) => sum_run 1 f_change_of chg (iOf (e2 dIx (eVar 0) (eC (.int 2)))) [.val x, .no] rs (by omega) (fun r hr n => change_ok (h4 r hr) n) n (by simp [hx, it]) (fun d => rfl)
  rw [h5] at A
  have ab : dAbs [.int (rs.map chg).sum] = some (.int (absI (rs.map chg).sum)) := rfl
  have le : dLeA (.int (absI (rs.map chg).sum)) (.int 12) = some (.bl (decide (absI (rs.map chg).sum ≤ 12))) := rfl
  generalize absI (rs.map chg).sum = AA at *
  generalize (rs.map chg).sum = SS at *
  generalize (D.int (rs.length : Int)) = LL at *
  generalize encT rs = R at *
  generalize (D.tup [.int (t : Int), .int 0]) = L at *
  have i1 : dIsi "tuple" (.tup [.str "block", L, R]) = some (.bl true) := rfl
  have x0 : dIx (.tup [.str "block", L, R]) (.int 0) = some (.str "block") := rfl
  have x1 : dIx (.tup [.str "block", L, R]) (.int 1) = some L := rfl
  have x2 : dIx (.tup [.str "block", L, R]) (.int 2) = some R := rfl
  have l : dLen [.tup [.str "block", L, R]] = some (.int 3) := rfl
  have A := A _ x2
  have S := S _ x2
  generalize (D.tup [.str "block", L, R]) = Y at *
  have rch : f_round_change [Y] n = some (.ok (.int SS), n) := by
    simp only [f_round_change, g_round_change]
    generalize (eB dSum (eCons (eComp [1] (gV 1) (iOf (e2 dIx (eVar 0) (eC (.int 2)))) tYesD (eCall (f_change_of) (eCons (eVar 1) eNil))) eNil)) = CC at *
    simp [S]
  simp only [f_is_part, g_is_part]
  generalize (eB dAll (eCons (eComp [1] (gV 1) (iOf (e2 dIx (eVar 0) (eC (.int 2)))) tYesD (eAnd (eCall (f_is_row) (eCons (eVar 1) eNil)) (eCall (f_is_even) (eCons (eVar 1) eNil)))) eNil)) = CC at *
  simp [i1, x0, x1, x2, l, s_br, n_bb, ln, i2, lr, c1, c2, A, rch, ab, le]
theorem is_part_ok {p : Part} (h : Op p) (n : Int) : f_is_part [pD p] n = some (.ok (.bl true), n) := by
  cases p with
  | row r => exact is_part_row h n
  | blk t rs =>
    obtain ⟨h1, h2, h3, h4, h5, h6, h7, h8⟩ := h
    rw [is_part_blk h2 h3 h4 h5 h6, decide_eq_true (absI_le.mpr ⟨h7, h8⟩)]
theorem const_ok {p : Part} (h : Op p) (n : Int) : f_is_constant [pD p] n = some (.ok (.bl true), n) := by
  have k := is_part_ok h n
  cases p with
  | row r =>
    have x0 : dIx (pD (.row r)) (.int 0) = some (.str "row") := rfl
    generalize pD (.row r) = Y at *
    simp only [f_is_constant, g_is_constant]
    simp [k, x0, s_rr]
  | blk t rs =>
    have x0 : dIx (pD (.blk t rs)) (.int 0) = some (.str "block") := rfl
    have x1 : dIx (pD (.blk t rs)) (.int 1) = some (.tup [.int t, .int 0]) := rfl
    have x2 : dIx (.tup [.int (t : Int), .int 0]) (.int 1) = some (.int 0) := rfl
    have x3 : dIx (.tup [.int (t : Int), .int 0]) (.int 0) = some (.int t) := rfl
    have t2 : (2 : Int) ≤ t := by have := h.1; omega
    generalize pD (.blk t rs) = Y at *
    generalize (D.tup [.int (t : Int), .int 0]) = L at *
    simp only [f_is_constant, g_is_constant]
    simp [k, x0, x1, x2, x3, s_br, t2]
theorem rows_ok (p : Part) (n : Int) : f_rows_of [pD p] n = some (.ok (encT (prs p)), n) := by
  cases p with
  | row r =>
    have x0 : dIx (pD (.row r)) (.int 0) = some (.str "row") := rfl
    have c : dCut (pD (.row r)) (some 1) none = some (encT (prs (.row r))) := rfl
    generalize encT (prs (.row r)) = Z at *
    generalize pD (.row r) = Y at *
    simp only [f_rows_of, g_rows_of]
    simp [x0, c, s_rr]
  | blk t rs =>
    have x0 : dIx (pD (.blk t rs)) (.int 0) = some (.str "block") := rfl
    have c : dIx (pD (.blk t rs)) (.int 2) = some (encT (prs (.blk t rs))) := rfl
    generalize encT (prs (.blk t rs)) = Z at *
    generalize pD (.blk t rs) = Y at *
    simp only [f_rows_of, g_rows_of]
    simp [x0, c, s_br]
theorem op_rows {p : Part} (h : Op p) : (prs p).length ≤ 20 ∧ ∀ r ∈ prs p, Ow r := by
  cases p with
  | row r => exact ⟨by show 1 ≤ 20; omega, fun x hx => by rw [List.mem_singleton.mp hx]; exact h⟩
  | blk t rs => exact ⟨h.2.2.2.1, h.2.2.2.2.1⟩
theorem part_cost_ok {p : Part} (h : Op p) (n : Int) : f_part_cost [pD p] n = some (.ok (.int (pc p)), n) := by
  obtain ⟨o1, o2⟩ := op_rows h
  have rw0 := rows_ok p n
  have it : dItems (encT (prs p)) = some ((prs p).map PyE.enc) := rfl
  have S := sum_run 1 f_row_cost rc (iOf (eCall (f_rows_of) (eCons (eVar 0) eNil))) [.val (pD p), .no] (prs p) (by omega) (fun r hr n => rc_ok (o2 r hr) n) n (by
    generalize pD p = Y at *
    generalize encT (prs p) = Z at *
    simp [rw0, it]) (fun d => rfl)
  cases p with
  | row r =>
    have x0 : dIx (pD (.row r)) (.int 0) = some (.str "row") := rfl
    have e : pc (.row r) = 1 + ((prs (.row r)).map rc).sum := rfl
    rw [e]
    generalize ((prs (.row r)).map rc).sum = SS at *
    generalize pD (.row r) = Y at *
    simp only [f_part_cost, g_part_cost]
    generalize (eB dSum (eCons (eComp [1] (gV 1) (iOf (eCall (f_rows_of) (eCons (eVar 0) eNil))) tYesD (eCall (f_row_cost) (eCons (eVar 1) eNil))) eNil)) = CC at *
    simp [x0, s_rb, S]
  | blk t rs =>
    have x0 : dIx (pD (.blk t rs)) (.int 0) = some (.str "block") := rfl
    have e : pc (.blk t rs) = 2 + ((prs (.blk t rs)).map rc).sum := rfl
    rw [e]
    generalize ((prs (.blk t rs)).map rc).sum = SS at *
    generalize pD (.blk t rs) = Y at *
    simp only [f_part_cost, g_part_cost]
    generalize (eB dSum (eCons (eComp [1] (gV 1) (iOf (eCall (f_rows_of) (eCons (eVar 0) eNil))) tYesD (eCall (f_row_cost) (eCons (eVar 1) eNil))) eNil)) = CC at *
    simp [x0, s_bb, S]
end K47
end

section
set_option Elab.async false
set_option linter.all false
set_option autoImplicit false
set_option maxRecDepth 100000
namespace K47
open DL PySem L2 P_k47_whole_charts PyProof.Rows
theorem evar_get {i : Nat} {ρ : DL.Env} {d : D} {n : Int} (h : ρ[i]? = some (.val d)) : eVar i ρ n = some (.ok d, n) := by
  show M.opt (match ρ[i]? with | some (Sl.val d) => some d | _ => none) n = _
  rw [h]
  rfl
theorem evar_hs {v : Nat} {ρ : DL.Env} {d : D} {n : Int} (h : v < ρ.length) : eVar v ((hide (wipeD ρ [v])).set v (.val d)) n = some (.ok d, n) :=
  evar_get (List.getElem?_set_self (by rw [hide_length, wipeD_length]; exact h))
theorem cutL_mid {α : Type} [PyE α] (xs : List α) (i j : Nat) : dCut (encL xs) (some (i : Int)) (some (j : Int)) = some (encL ((xs.take j).drop i)) := by
  have h := cut_mid xs i j
  unfold dCut encT at h
  simp only [Option.some.injEq, D.tup.injEq] at h
  exact congrArg (fun x => some (D.lst x)) h
theorem dLen_L {α : Type} [PyE α] (xs : List α) : dLen [encL xs] = some (.int xs.length) := by simp [encL]
theorem cut_inn (rows : List Row) (low many : Nat) : dCut (encL rows) (some (low : Int)) (some ((low : Int) + many)) = some (encL (inn rows low many)) := by
  have e : (low : Int) + many = ((low + many : Nat) : Int) := by omega
  rw [e, cutL_mid]
  unfold inn
  rw [List.drop_take, Nat.add_sub_cancel_left]
theorem ixAL {α : Type} [PyE α] {xs : List α} {x : α} {j : Nat} (h : xs[j]? = some x) : dIxA (encL xs) (.int (j : Int)) = some (PyE.enc x) := ixAL_nat (by rw [List.getElem?_map, h]; rfl)
/-! ### the rows of parts -/
def UB : SX := (sExtM 1 (e2 dMulL (eB dLstA (eCons (eCall (f_rows_of) (eCons (eVar 2) eNil)) eNil)) (eIf (tB (e2 dEq (e2 dIx (eVar 2) (eC (.int 0))) (eC (.str "block")))) (e2 dIx (e2 dIx (eVar 2) (eC (.int 1))) (eC (.int 0))) (eC (.int 1)))))
theorem lstA_T {α : Type} [PyE α] (xs : List α) : dLstA [encT xs] = some (encL xs) := rfl
theorem ub_run {p : Part} (h : Op p) (P : D) (acc : List Row) (hl : acc.length ≤ 10000000) (n : Int) : UB [.val P, .own (encL acc), .val (pD p)] n = some (.ok (.nx [.val P, .own (encL (acc ++ pun p)), .val (pD p)]), n) := by
  have r0 := rows_ok p n
  have la := lstA_T (prs p)
  have ow : ∀ s, ownLst 1 [.val P, .own (encL acc), s] = some () := fun s => rfl
  obtain ⟨o1, o2⟩ := op_rows h
  have main : ∃ k : Nat, k ≤ 99 ∧ pun p = pw (prs p) k ∧ ∀ ρ : DL.Env, ρ[2]? = some (.val (pD p)) → eIf (tB (e2 dEq (e2 dIx (eVar 2) (eC (.int 0))) (eC (.str "block")))) (e2 dIx (e2 dIx (eVar 2) (eC (.int 1))) (eC (.int 0))) (eC (.int 1)) ρ n = some (.ok (.int k), n) := by
    cases p with
    | row r =>
      refine ⟨1, by omega, by rw [pw_succ, pw_zero, List.append_nil]; rfl, fun ρ hρ => ?_⟩
      have x0 : dIx (pD (.row r)) (.int 0) = some (.str "row") := rfl
      have v := evar_get (n := n) hρ
      generalize pD (.row r) = Y at *
      simp [v, x0, s_rb]
    | blk t rs =>
      refine ⟨t, h.2.1, rfl, fun ρ hρ => ?_⟩
      have x0 : dIx (pD (.blk t rs)) (.int 0) = some (.str "block") := rfl
      have x1 : dIx (pD (.blk t rs)) (.int 1) = some (.tup [.int t, .int 0]) := rfl
      have x3 : dIx (.tup [.int (t : Int), .int 0]) (.int 0) = some (.int t) := rfl
      have v := evar_get (n := n) hρ
      generalize pD (.blk t rs) = Y at *
      generalize (D.tup [.int (t : Int), .int 0]) = L at *
      simp [v, x0, x1, x3, s_bb]
  obtain ⟨k, k1, k2, k3⟩ := main
  have k3 := k3 [.val P, .own (encL acc), .val (pD p)] rfl
  have ml := dMulL_L (xs := prs p) (k := k) (by omega) (by omega)
  rw [← k2] at ml
  have ex : uExt (encL (pun p)) (encL acc) = some (encL (acc ++ pun p)) := by
    have lp : (pun p).length ≤ 99 * 20 := by rw [k2, pw_length]; exact Nat.mul_le_mul k1 o1
    have := uExt_ok (xs := acc.map (PyE.enc : Row → D)) (ys := (pun p).map PyE.enc) (by rw [List.length_map, List.length_map]; omega)
    rw [← List.map_append] at this
    exact this
  generalize encL (acc ++ pun p) = A2 at *
  generalize encL (pun p) = A1 at *
  generalize hA : encL acc = A0 at *
  generalize encL (prs p) = B1 at *
  generalize encT (prs p) = B0 at *
  generalize pD p = Y at *
  unfold UB
  generalize eIf (tB (e2 dEq (e2 dIx (eVar 2) (eC (.int 0))) (eC (.str "block")))) (e2 dIx (e2 dIx (eVar 2) (eC (.int 1))) (eC (.int 0))) (eC (.int 1)) = CC at *
  simp [ow, r0, la, k3, ml, ex]
theorem unr_loop (P : D) (n : Int) : ∀ (ps : List Part) (acc : List Row) (s : Sl), (∀ p ∈ ps, Op p) → acc.length + ps.length * 1980 ≤ 10000000 → ∃ s', forD (gV 2) UB (ps.map pD) [.val P, .own (encL acc), s] n = some (.ok (.nx [.val P, .own (encL (acc ++ ps.flatMap pun)), s']), n)
  | [], acc, s, _, _ => ⟨s, by simp⟩
  | p :: ps, acc, s, h, hl => by
    rw [List.length_cons] at hl
    have hp := h p List.mem_cons_self
    have lp : (pun p).length ≤ 1980 := by
      cases p with
      | row r => show 1 ≤ 1980; omega
      | blk t rs =>
        show (pw rs t).length ≤ _
        rw [pw_length]
        exact Nat.mul_le_mul hp.2.1 hp.2.2.2.1
    have b := ub_run hp P acc (by omega) n
    obtain ⟨s', e⟩ := unr_loop P n ps (acc ++ pun p) (.val (pD p)) (fun q hq => h q (List.mem_cons_of_mem _ hq)) (by rw [List.length_append]; omega)
    refine ⟨s', ?_⟩
    rw [List.map_cons, forD_cons, bind_ap, gV_ap, opt_some, bindR_ok, bind_ap]
    show bindR (UB [.val P, .own (encL acc), .val (pD p)] n) _ = _
    rw [b, bindR_ok, turnK_nx, e, List.flatMap_cons, List.append_assoc]
theorem unrolled_ok (ps : List Part) (h : ∀ p ∈ ps, Op p) (hl : ps.length ≤ 1000) (n : Int) : f_unrolled [.tup (ps.map pD)] n = some (.ok (encL (ps.flatMap pun)), n) := by
  obtain ⟨s', e⟩ := unr_loop (.tup (ps.map pD)) n ps [] .no h (by simp; omega)
  rw [List.nil_append] at e
  have fz : frzE 1 [.val (.tup (ps.map pD)), .own (encL (ps.flatMap pun)), s'] = some [.val (.tup (ps.map pD)), .val (encL (ps.flatMap pun)), s'] := rfl
  have it : dItems (.tup (ps.map pD)) = some (ps.map pD) := rfl
  have nl : encL ([] : List Row) = .lst [] := rfl
  rw [nl] at e
  generalize encL (ps.flatMap pun) = R at *
  simp only [f_unrolled, g_unrolled]
  show bindR (bindR _ _) _ = _
  generalize (ps.map pD) = L at *
  generalize hP : D.tup L = PP at *
  have e' := e
  unfold UB at e'
  simp [e', fz, it]
/-! ### charts -/
theorem isl_L {α : Type} [PyE α] (xs : List α) : dIsi "list" (encL xs) = some (.bl true) := rfl
theorem it_L {α : Type} [PyE α] (xs : List α) : dItems (encL xs) = some (xs.map PyE.enc) := rfl
theorem chart_ok (rows : List Row) (hr : ∀ r ∈ rows, Ow r) (hl : rows.length ≤ 60) (n : Int) : f_check_chart [encL rows] n = some (.ok .non, n) := by
  have A := all_run 1 (eCall (f_is_row) (eCons (eVar 1) eNil)) (fun _ => true) (iOf (eVar 0)) [.val (encL rows), .no] rows (by omega) n (fun r hr' => by
    have e1 := isrow_ok (hr r hr') n
    generalize (PyE.enc r : D) = Z at *
    simp [e1]) (by simp [it_L])
  have at' : rows.all (fun _ => true) = true := by rw [List.all_eq_true]; exact fun _ _ => rfl
  rw [at'] at A
  have i1 := isl_L rows
  have l := dLen_L rows
  have c : ¬ (60 : Int) < rows.length := by omega
  generalize encL rows = R at *
  simp only [f_check_chart, g_check_chart]
  generalize (eB dAll (eCons (eComp [1] (gV 1) (iOf (eVar 0)) tYesD (eCall (f_is_row) (eCons (eVar 1) eNil))) eNil)) = CC at *
  simp [i1, l, c, A]
/-- a chart that is told, or made -/
def chD (ps : List Part) (bs : List Int) : D := .obj 3 ["parts", "bounds"] [.tup (ps.map pD), .lst (bs.map D.int)]
theorem init_ok (P : D) (L : List D) (n : Int) : f_Chart___init__ [P, .lst L] n = some (.ok (.obj 3 ["parts", "bounds"] [P, .lst L]), n) := by kernel_rfl
theorem fld_p (P B : D) : dFld 3 "parts" (.obj 3 ["parts", "bounds"] [P, B]) = some P := by kernel_rfl
theorem fld_b (P B : D) : dFld 3 "bounds" (.obj 3 ["parts", "bounds"] [P, B]) = some B := by kernel_rfl
end K47
end

section
set_option Elab.async false
set_option linter.all false
set_option autoImplicit false
set_option maxRecDepth 100000
namespace K47
open DL PySem L2 P_k47_whole_charts PyProof.Rows
/-! ### the parts that may stand at a place -/
/-- the rows go on with so many rounds -/
def Cp (rows : List Row) (low m t : Nat) : Prop := low + m * t ≤ rows.length ∧ pw (inn rows low m) t = inn rows low (m * t)
theorem inn_add (rows : List Row) (low a b : Nat) : inn rows low (a + b) = inn rows low a ++ inn rows (low + a) b := by
  unfold inn
  rw [List.take_add, List.drop_drop]
theorem pw_snoc {α : Type} (w : List α) : ∀ k : Nat, pw w (k + 1) = pw w k ++ w
  | 0 => by rw [pw_succ, pw_zero, List.append_nil, List.nil_append]
  | k + 1 => by rw [pw_succ, pw_snoc w k, ← List.append_assoc, ← pw_succ, pw_snoc w k, List.append_assoc]
theorem cp_succ {rows : List Row} {low m t : Nat} (hm : 1 ≤ m) (h0 : low + m ≤ rows.length) : Cp rows low m (t + 1) ↔ Cp rows low m t ∧ inn rows (low + m * t) m = inn rows low m := by
  have li := inn_len (rows := rows) (low := low) (many := m) h0
  unfold Cp
  rw [Nat.mul_succ, inn_add, pw_snoc]
  constructor
  · rintro ⟨h1, h2⟩
    have l : (pw (inn rows low m) t).length = (inn rows low (m * t)).length := by
      rw [pw_length, li, inn_len (by omega), Nat.mul_comm]
    obtain ⟨a, b⟩ := List.append_inj h2 l
    exact ⟨⟨by omega, a⟩, b.symm⟩
  · rintro ⟨⟨h1, h2⟩, h3⟩
    refine ⟨?_, by rw [h2, h3]⟩
    have := congrArg List.length h3
    rw [li] at this
    unfold inn at this
    rw [List.length_take, List.length_drop] at this
    omega
theorem cp_mono {rows : List Row} {low m : Nat} (hm : 1 ≤ m) (h0 : low + m ≤ rows.length) {t : Nat} : ∀ {u : Nat}, t ≤ u → Cp rows low m u → Cp rows low m t
  | 0, h, c => by have : t = 0 := by omega
                  subst this; exact c
  | u + 1, h, c => by
    by_cases e : t = u + 1
    · subst e; exact c
    · exact cp_mono hm h0 (by omega) ((cp_succ hm h0).mp c).1
theorem cp_one {rows : List Row} {low m : Nat} (h0 : low + m ≤ rows.length) : Cp rows low m 1 := ⟨by omega, by rw [pw_succ, pw_zero, List.append_nil, Nat.mul_one]⟩
def WT : TX := (tB (e2 dEq (eCut (eVar 0) (oSome (eVar 6)) (oSome (e2 dAdd (eVar 6) (eVar 3)))) (eVar 4)))
def WBd : SX := (sSeq (sPar [5, 6] (eCons (e2 dAdd (eVar 5) (eC (.int 1))) (eCons (e2 dAdd (eVar 6) (eVar 3)) eNil)))
  (sApp 2 (eTup (eCons (eTup (eCons (eC (.str "block")) (eCons (eTup (eCons (eVar 5) (eCons (eC (.int 0)) eNil))) (eCons (eB dTupOf (eCons (eVar 4) eNil)) eNil)))) (eCons (eVar 6) eNil)))))
def eD (q : Part × Nat) : D := .tup [pD q.1, .int q.2]
def bk (rows : List Row) (low : Nat) (q : Nat × Nat) : Part × Nat := (.blk q.2 (inn rows low q.1), low + q.1 * q.2)
/-- the places of the search -/
def QE (rows : List Row) (low : Nat) (acc : List D) (s3 s4 s5 s6 : Sl) : DL.Env := [.val (encL rows), .val (.int low), .own (.lst acc), s3, s4, s5, s6, .no, .no]
theorem wt_run (rows : List Row) (low m t : Nat) (acc : List D) (n : Int) : WT (QE rows low acc (.val (.int m)) (.val (encL (inn rows low m))) (.val (.int t)) (.val (.int ((low + m * t : Nat) : Int)))) n = some (.ok (decide (inn rows (low + m * t) m = inn rows low m)), n) := by
  have c := cut_inn rows (low + m * t) m
  have e := dEq_L (inn rows (low + m * t) m) (inn rows low m)
  generalize decide (inn rows (low + m * t) m = inn rows low m) = BB at *
  generalize encL (inn rows (low + m * t) m) = X1 at *
  generalize encL (inn rows low m) = X2 at *
  unfold QE
  generalize encL rows = R at *
  generalize ((low + m * t : Nat) : Int) = H at *
  unfold WT
  simp [c, e]
theorem wb_run (rows : List Row) (low m t : Nat) (acc : List D) (hl : acc.length < 16777216) (n : Int) : WBd (QE rows low acc (.val (.int m)) (.val (encL (inn rows low m))) (.val (.int t)) (.val (.int ((low + m * t : Nat) : Int)))) n = some (.ok (.nx (QE rows low (acc ++ [eD (bk rows low (m, t + 1))]) (.val (.int m)) (.val (encL (inn rows low m))) (.val (.int ((t + 1 : Nat) : Int))) (.val (.int ((low + m * (t + 1) : Nat) : Int))))), n) := by
  have a1 : ((t + 1 : Nat) : Int) = (t : Int) + 1 := by omega
  have a2 : ((low + m * (t + 1) : Nat) : Int) = ((low + m * t : Nat) : Int) + m := by rw [Nat.mul_succ]; omega
  have e : eD (bk rows low (m, t + 1)) = .tup [.tup [.str "block", .tup [.int ((t + 1 : Nat) : Int), .int 0], encT (inn rows low m)], .int ((low + m * (t + 1) : Nat) : Int)] := rfl
  rw [e, a1, a2]
  have tp : dTupOf [encL (inn rows low m)] = some (encT (inn rows low m)) := rfl
  have ow : ∀ s3 s4 s5 s6, ownLst 2 (QE rows low acc s3 s4 s5 s6) = some () := fun _ _ _ _ => rfl
  have up := uApp_ok (.tup [.tup [.str "block", .tup [.int ((t : Int) + 1), .int 0], encT (inn rows low m)], .int (((low + m * t : Nat) : Int) + m)]) acc hl
  unfold QE at ow ⊢
  generalize encT (inn rows low m) = X1 at *
  generalize encL (inn rows low m) = X2 at *
  generalize encL rows = R at *
  generalize ((low + m * t : Nat) : Int) = H at *
  unfold WBd
  simp [tp, up]
theorem while_run (rows : List Row) (low m : Nat) (hm : 1 ≤ m) (h0 : low + m ≤ rows.length) (n : Int) : ∀ (d t fuel : Nat) (acc : List D), Cp rows low m t → rows.length - (low + m * t) ≤ d → d < fuel → acc.length + d ≤ 1000000 →
    ∃ T, t ≤ T ∧ (∀ u, t ≤ u → (u ≤ T ↔ Cp rows low m u)) ∧ whileD WT WBd fuel (QE rows low acc (.val (.int m)) (.val (encL (inn rows low m))) (.val (.int t)) (.val (.int ((low + m * t : Nat) : Int)))) n =
      some (.ok (.nx (QE rows low (acc ++ (List.range (T - t)).map fun i => eD (bk rows low (m, t + 1 + i))) (.val (.int m)) (.val (encL (inn rows low m))) (.val (.int T)) (.val (.int ((low + m * T : Nat) : Int))))), n) := by
  intro d
  induction d with
  | zero =>
    intro t fuel acc c h1 h2 h3
    obtain ⟨f, rfl⟩ : ∃ f, fuel = f + 1 := ⟨fuel - 1, by omega⟩
    have w := wt_run rows low m t acc n
    have no : ¬ inn rows (low + m * t) m = inn rows low m := fun e => by
      have := ((cp_succ hm h0).mpr ⟨c, e⟩).1
      rw [Nat.mul_succ] at this
      omega
    rw [decide_eq_false no] at w
    refine ⟨t, Nat.le_refl _, fun u hu => ⟨fun k => (show u = t by omega) ▸ c, fun k => ?_⟩, ?_⟩
    · apply Decidable.byContradiction
      intro hh
      exact no ((cp_succ hm h0).mp (cp_mono hm h0 (by omega : t + 1 ≤ u) k)).2
    · rw [whileD_stop w, Nat.sub_self]
      simp
  | succ d ih =>
    intro t fuel acc c h1 h2 h3
    obtain ⟨f, rfl⟩ : ∃ f, fuel = f + 1 := ⟨fuel - 1, by omega⟩
    have w := wt_run rows low m t acc n
    by_cases e : inn rows (low + m * t) m = inn rows low m
    · rw [decide_eq_true e] at w
      have b := wb_run rows low m t acc (by omega) n
      have c1 := (cp_succ hm h0).mpr ⟨c, e⟩
      have ms : m * (t + 1) = m * t + m := Nat.mul_succ m t
      obtain ⟨T, k1, k2, k3⟩ := ih (t + 1) f (acc ++ [eD (bk rows low (m, t + 1))]) c1 (by omega) (by omega) (by rw [List.length_append]; simp; omega)
      refine ⟨T, by omega, fun u hu => ?_, ?_⟩
      · by_cases q : u = t
        · subst q; exact ⟨fun _ => c, fun _ => by omega⟩
        · exact k2 u (by omega)
      · rw [whileD_step w b, k3]
        congr 5
        rw [List.append_assoc]
        congr 1
        rw [show T - t = (T - (t + 1)) + 1 by omega, List.range_succ_eq_map, List.map_cons, List.map_map]
        show [eD (bk rows low (m, t + 1))] ++ _ = eD (bk rows low (m, t + 1 + 0)) :: _
        rw [Nat.add_zero, List.singleton_append]
        congr 1
        refine List.map_congr_left fun i _ => ?_
        show _ = eD (bk rows low (m, t + 1 + (i + 1)))
        rw [show t + 1 + 1 + i = t + 1 + (i + 1) by omega]
    · rw [decide_eq_false e] at w
      refine ⟨t, Nat.le_refl _, fun u hu => ⟨fun k => (show u = t by omega) ▸ c, fun k => ?_⟩, ?_⟩
      · apply Decidable.byContradiction
        intro hh
        exact e ((cp_succ hm h0).mp (cp_mono hm h0 (by omega : t + 1 ≤ u) k)).2
      · rw [whileD_stop w, Nat.sub_self]
        simp
end K47
end

section
set_option Elab.async false
set_option linter.all false
set_option autoImplicit false
set_option maxRecDepth 100000
namespace K47
open DL PySem L2 P_k47_whole_charts PyProof.Rows
def PBa : EX := (eB dAll (eCons (eComp [7] (gV 7) (iOf (eVar 4)) tYesD (eCall (f_is_even) (eCons (eVar 7) eNil))) eNil))
def PB1 : SX := (sAsg (gV 4) (eCut (eVar 0) (oSome (eVar 1)) (oSome (e2 dAdd (eVar 1) (eVar 3)))))
def PB2 : SX := (sIf (tNotD (tTru PBa)) sBk sNx)
def PB3 : SX := (sPar [5, 6] (eCons (eC (.int 1)) (eCons (e2 dAdd (eVar 1) (eVar 3)) eNil)))
def PB4 : SX := (sWhile (fun _ => 1000000) WT WBd)
def PB : SX := (sSeq PB1 (sSeq PB2 (sSeq PB3 PB4)))
theorem seq_bk {g h : SX} {ρ ρ1 : DL.Env} {n n1 : Int} (a : g ρ n = some (.ok (.bk ρ1), n1)) : sSeq g h ρ n = some (.ok (.bk ρ1), n1) := by
  rw [sSeq_ap, bind_ap, a, bindR_ok, seqK_bk, pure_ap]
theorem pb_run (rows : List Row) (low m : Nat) (hm : 1 ≤ m) (h0 : low + m ≤ rows.length) (hr : ∀ r ∈ rows, Ow r) (hl : rows.length ≤ 20) (acc : List D) (ha : acc.length + 20 ≤ 1000000) (s4 s5 s6 : Sl) (n : Int) :
    ((inn rows low m).all evR = false ∧ ∃ s4' s5' s6', PB (QE rows low acc (.val (.int m)) s4 s5 s6) n = some (.ok (.bk (QE rows low acc (.val (.int m)) s4' s5' s6')), n)) ∨
    ((inn rows low m).all evR = true ∧ ∃ T s4' s5' s6', 1 ≤ T ∧ T ≤ 20 ∧ (∀ u, 1 ≤ u → (u ≤ T ↔ Cp rows low m u)) ∧ PB (QE rows low acc (.val (.int m)) s4 s5 s6) n = some (.ok (.nx (QE rows low (acc ++ (List.range (T - 1)).map fun i => eD (bk rows low (m, 2 + i))) (.val (.int m)) s4' s5' s6')), n)) := by
  have e1 : PB1 (QE rows low acc (.val (.int m)) s4 s5 s6) n = some (.ok (.nx (QE rows low acc (.val (.int m)) (.val (encL (inn rows low m))) s5 s6)), n) := by
    have c := cut_inn rows low m
    unfold QE
    generalize encL (inn rows low m) = X at *
    generalize encL rows = R at *
    unfold PB1
    simp [c]
  have li : (inn rows low m).length = m := inn_len h0
  have A := all_run 7 (eCall (f_is_even) (eCons (eVar 7) eNil)) evR (iOf (eVar 4)) (QE rows low acc (.val (.int m)) (.val (encL (inn rows low m))) s5 s6) (inn rows low m) (by omega) n (fun r hr' => by
    have e1 := even_ok (hr r (mem_inn hr')) n
    have v := evar_hs (v := 7) (ρ := QE rows low acc (.val (.int m)) (.val (encL (inn rows low m))) s5 s6) (d := PyE.enc r) (n := n) (by show 7 < 9; omega)
    generalize (hide (wipeD (QE rows low acc (.val (.int m)) (.val (encL (inn rows low m))) s5 s6) [7])).set 7 (.val (PyE.enc r)) = ρ1 at *
    generalize (PyE.enc r : D) = Z at *
    simp [e1, v]) (by
    have it := it_L (inn rows low m)
    unfold QE
    generalize encL (inn rows low m) = X at *
    simp [it])
  have A : PBa (QE rows low acc (.val (.int m)) (.val (encL (inn rows low m))) s5 s6) n = some (.ok (.bl ((inn rows low m).all evR)), n) := A
  cases ev : (inn rows low m).all evR with
  | false =>
    refine .inl ⟨rfl, .val (encL (inn rows low m)), s5, s6, ?_⟩
    rw [ev] at A
    refine seq_go e1 (seq_bk ?_)
    generalize QE rows low acc (.val (.int m)) (.val (encL (inn rows low m))) s5 s6 = ρ at *
    unfold PB2
    simp [A]
  | true =>
    rw [ev] at A
    have e2 : PB2 (QE rows low acc (.val (.int m)) (.val (encL (inn rows low m))) s5 s6) n = some (.ok (.nx (QE rows low acc (.val (.int m)) (.val (encL (inn rows low m))) s5 s6)), n) := by
      generalize QE rows low acc (.val (.int m)) (.val (encL (inn rows low m))) s5 s6 = ρ at *
      unfold PB2
      simp [A]
    have e3 : PB3 (QE rows low acc (.val (.int m)) (.val (encL (inn rows low m))) s5 s6) n = some (.ok (.nx (QE rows low acc (.val (.int m)) (.val (encL (inn rows low m))) (.val (.int ((1 : Nat) : Int))) (.val (.int ((low + m * 1 : Nat) : Int))))), n) := by
      have k : ((low + m * 1 : Nat) : Int) = (low : Int) + m := by omega
      have k1 : ((1 : Nat) : Int) = 1 := rfl
      rw [k, k1]
      unfold QE
      generalize encL (inn rows low m) = X at *
      generalize encL rows = R at *
      unfold PB3
      simp
    obtain ⟨T, k1, k2, k3⟩ := while_run rows low m hm h0 n rows.length 1 1000000 acc (cp_one h0) (by omega) (by omega) (by omega)
    have kT := (k2 T k1).mp (Nat.le_refl _)
    have : 1 * T ≤ m * T := Nat.mul_le_mul hm (Nat.le_refl _)
    have := kT.1
    refine .inr ⟨rfl, T, .val (encL (inn rows low m)), .val (.int T), .val (.int ((low + m * T : Nat) : Int)), k1, by omega, k2, seq_go e1 (seq_go e2 (seq_go e3 ?_))⟩
    unfold PB4
    rw [sWhile_ap]
    exact k3
theorem ev_mono {rows : List Row} {low a b : Nat} (h : a ≤ b) (e : (inn rows low b).all evR = true) : (inn rows low a).all evR = true := by
  rw [List.all_eq_true] at e ⊢
  intro r hr
  refine e r ?_
  unfold inn at hr ⊢
  have : ((rows.drop low).take b).take a = (rows.drop low).take a := by rw [List.take_take, Nat.min_eq_left h]
  rw [← this] at hr
  exact List.mem_of_mem_take hr
theorem pf_loop (rows : List Row) (low : Nat) (hr : ∀ r ∈ rows, Ow r) (hl : rows.length ≤ 20) (n : Int) : ∀ (d k : Nat) (acc : List D) (s3 s4 s5 s6 : Sl), 1 ≤ k → (∀ m, m < k + d → low + m ≤ rows.length) → acc.length + 20 * d + 20 ≤ 1000000 →
    ∃ (es : List (Nat × Nat)) (s3' s4' s5' s6' : Sl), forD (gV 3) PB ((List.range d).map fun i : Nat => D.int ((k + i : Nat) : Int)) (QE rows low acc s3 s4 s5 s6) n = some (.ok (.nx (QE rows low (acc ++ es.map fun q => eD (bk rows low q)) s3' s4' s5' s6')), n) ∧ es.length ≤ 20 * d ∧
      ∀ q, q ∈ es ↔ (k ≤ q.1 ∧ q.1 < k + d ∧ 2 ≤ q.2 ∧ (inn rows low q.1).all evR = true ∧ Cp rows low q.1 q.2)
  | 0, k, acc, s3, s4, s5, s6, _, _, _ => ⟨[], s3, s4, s5, s6, by simp, by simp, fun q => by simp; omega⟩
  | d + 1, k, acc, s3, s4, s5, s6, h1, h2, h3 => by
    have h0 : low + k ≤ rows.length := h2 k (by omega)
    rw [List.range_succ_eq_map, List.map_cons, List.map_map, forD_cons, bind_ap, gV_ap, opt_some, bindR_ok, bind_ap]
    have le : ((List.range d).map ((fun i : Nat => D.int ((k + i : Nat) : Int)) ∘ Nat.succ)) = (List.range d).map fun i : Nat => D.int ((k + 1 + i : Nat) : Int) := List.map_congr_left fun i _ => by
      show D.int ((k + (i + 1) : Nat) : Int) = _
      rw [show k + (i + 1) = k + 1 + i by omega]
    rw [le]
    rcases pb_run rows low k h1 h0 hr hl acc (by omega) s4 s5 s6 n with ⟨ev, s4', s5', s6', e⟩ | ⟨ev, T, s4', s5', s6', t1, t2, t3, e⟩
    · refine ⟨[], .val (.int k), s4', s5', s6', ?_, by simp, fun q => ⟨fun z => by simp at z, fun ⟨a, b, c, e', f⟩ => ?_⟩⟩
      · show bindR (PB (QE rows low acc (.val (.int ((k + 0 : Nat) : Int))) s4 s5 s6) n) _ = _
        rw [Nat.add_zero, e, bindR_ok, turnK_bk, pure_ap, List.map_nil, List.append_nil]
      · have := ev_mono a e'
        rw [ev] at this
        cases this
    · obtain ⟨es, s3'', s4'', s5'', s6'', f, fl, fm⟩ := pf_loop rows low hr hl n d (k + 1) (acc ++ (List.range (T - 1)).map fun i => eD (bk rows low (k, 2 + i))) (.val (.int k)) s4' s5' s6' (by omega) (fun m hm => h2 m (by omega)) (by rw [List.length_append, List.length_map, List.length_range]; omega)
      refine ⟨((List.range (T - 1)).map fun i => (k, 2 + i)) ++ es, s3'', s4'', s5'', s6'', ?_, by rw [List.length_append, List.length_map, List.length_range]; omega, fun q => ?_⟩
      · show bindR (PB (QE rows low acc (.val (.int ((k + 0 : Nat) : Int))) s4 s5 s6) n) _ = _
        rw [Nat.add_zero, e, bindR_ok, turnK_nx, f, List.map_append, List.map_map, List.append_assoc]
        rfl
      · rw [List.mem_append, fm q]
        constructor
        · rintro (a | ⟨a, b, c⟩)
          · obtain ⟨i, hi, rfl⟩ := List.mem_map.mp a
            rw [List.mem_range] at hi
            exact ⟨Nat.le_refl _, by show k < _; omega, by show 2 ≤ 2 + i; omega, ev, (t3 (2 + i) (by omega)).mp (by omega)⟩
          · exact ⟨by omega, by omega, c⟩
        · rintro ⟨a, b, c, e', g⟩
          by_cases z : q.1 = k
          · left
            obtain ⟨q1, q2⟩ := q
            simp only at z c g
            subst z
            have := (t3 q2 (by omega)).mpr g
            exact List.mem_map.mpr ⟨q2 - 2, List.mem_range.mpr (by omega), by rw [show 2 + (q2 - 2) = q2 by omega]⟩
          · right
            exact ⟨by omega, by omega, c, e', g⟩
def goodP : Part × Nat → Bool := fun q => match q.1 with
  | .row _ => true
  | .blk _ rs => decide (absI (rs.map chg).sum ≤ 12)
def PF0 : SX := (sOwnN 2 (nLst (eCons (eTup (eCons (eTup (eCons (eC (.str "row")) (eCons (e2 dIxA (eVar 0) (eVar 1)) eNil))) (eCons (e2 dAdd (eVar 1) (eC (.int 1))) eNil))) eNil)))
def PFr : IX := (iRng2D (eCons (eC (.int 1)) (eCons (e2 dAdd (eB dMin2 (eCons (eC (.int 20)) (eCons (e2 dDiv (e2 dSub (eB dLen (eCons (eVar 0) eNil)) (eVar 1)) (eC (.int 2))) eNil))) (eC (.int 1))) eNil)))
def PFc : EX := (eComp [8, 6] (gT (gsC (gV 8) (gsC (gV 6) gsN))) (iOf (eVar 2)) (tTru (eCall (f_is_part) (eCons (eVar 8) eNil))) (eTup (eCons (eVar 8) (eCons (eVar 6) eNil))))
def PF : SX := (sSeq PF0 (sSeq (sFor (gV 3) PFr PB) (sSeq (sFrz 2) (sRet PFc))))
theorem PF_eq : g_parts_from = PF := rfl
theorem pf_comp (rows : List Row) (low : Nat) (es : List (Part × Nat)) (hl : es.length ≤ 1000000) (h : ∀ q ∈ es, ∀ n, f_is_part [pD q.1] n = some (.ok (.bl (goodP q)), n)) (s3 s4 s5 s6 : Sl) (n : Int) :
    PFc [.val (encL rows), .val (.int low), .val (.lst (es.map eD)), s3, s4, s5, s6, .no, .no] n = some (.ok (.lst ((es.filter goodP).map eD)), n) := by
  have c := comp_filter eD (compB [8, 6] (gT (gsC (gV 8) (gsC (gV 6) gsN))) (tTru (eCall (f_is_part) (eCons (eVar 8) eNil))) (eTup (eCons (eVar 8) (eCons (eVar 6) eNil))) [.val (encL rows), .val (.int low), .val (.lst (es.map eD)), s3, s4, s5, s6, .no, .no]) goodP n es fun q hq => by
    have k := h q hq n
    have e : eD q = .tup [pD q.1, .int q.2] := rfl
    rw [e, compB_ap]
    have hl' : (hide (wipeD [.val (encL rows), .val (.int low), .val (.lst (es.map eD)), s3, s4, s5, s6, .no, .no] [8, 6])).length = 9 := by rw [hide_length, wipeD_length]; rfl
    generalize hide (wipeD [.val (encL rows), .val (.int low), .val (.lst (es.map eD)), s3, s4, s5, s6, .no, .no] [8, 6]) = ρ at *
    have v8 : eVar 8 ((ρ.set 8 (.val (pD q.1))).set 6 (.val (.int (q.2 : Nat)))) n = some (.ok (pD q.1), n) := evar_get (by rw [List.getElem?_set_ne (by omega), List.getElem?_set_self (by omega)])
    have v6 : eVar 6 ((ρ.set 8 (.val (pD q.1))).set 6 (.val (.int (q.2 : Nat)))) n = some (.ok (.int (q.2 : Nat)), n) := evar_get (List.getElem?_set_self (by rw [List.length_set]; omega))
    have g1 : gT (gsC (gV 8) (gsC (gV 6) gsN)) (.tup [pD q.1, .int (q.2 : Nat)]) ρ = some ((ρ.set 8 (.val (pD q.1))).set 6 (.val (.int (q.2 : Nat)))) := rfl
    rw [g1]
    generalize ((ρ.set 8 (.val (pD q.1))).set 6 (.val (.int (q.2 : Nat)))) = ρ1 at *
    generalize pD q.1 = Y at *
    generalize (q.2 : Int) = I at *
    cases hg : goodP q <;> rw [hg] at k <;> simp [v8, v6, k]
  have z : ((es.filter goodP).map eD).length ≤ 16777216 := by
    rw [List.length_map]
    have := List.length_filter_le goodP es
    omega
  have ml := mkLst_of z
  generalize ((es.filter goodP).map eD) = B at *
  have it : dItems (.lst (es.map eD)) = some (es.map eD) := rfl
  generalize (es.map eD) = L at *
  unfold PFc
  rw [eComp_ap, bind_ap]
  have i0 : iOf (eVar 2) [.val (encL rows), .val (.int low), .val (.lst L), s3, s4, s5, s6, .no, .no] n = some (.ok L, n) := by simp
  rw [i0, bindR_ok, bind_ap, calm_ap, c, calmR_ok, bindR_ok, ml, opt_some]
theorem parts_from_ok (rows : List Row) (low : Nat) (hr : ∀ r ∈ rows, Ow r) (hl : rows.length ≤ 20) (h : low < rows.length) (n : Int) :
    ∃ es : List (Part × Nat), f_parts_from [encL rows, .int low] n = some (.ok (.lst (es.map eD)), n) ∧ ∀ p x, (p, x) ∈ es ↔ E rows low p x := by
  have hx : rows[low]? = some rows[low] := by simp [h]
  have k0 : 20 ≥ (rows.length - low) / 2 := by omega
  have ixr := ixAL hx
  have nl : (nLst (eCons (eTup (eCons (eTup (eCons (eC (.str "row")) (eCons (e2 dIxA (eVar 0) (eVar 1)) eNil))) (eCons (e2 dAdd (eVar 1) (eC (.int 1))) eNil))) eNil)) [.val (encL rows), .val (.int low), .no, .no, .no, .no, .no, .no, .no] n = some (.ok [eD (.row rows[low], low + 1)], n) := by
    have e : eD (.row rows[low], low + 1) = .tup [.tup [.str "row", PyE.enc rows[low]], .int ((low : Int) + 1)] := rfl
    rw [e]
    generalize (PyE.enc rows[low] : D) = Z at *
    generalize encL rows = R at *
    have g := gz_of (ds := [D.tup [.tup [.str "row", Z], .int ((low : Int) + 1)]]) (by simp)
    simp [ixr, g]
  have e0 : PF0 [.val (encL rows), .val (.int low), .no, .no, .no, .no, .no, .no, .no] n = some (.ok (.nx (QE rows low [eD (.row rows[low], low + 1)] .no .no .no .no)), n) := by
    unfold PF0
    rw [sOwnN_ap, bind_ap, nl]
    rfl
  have rg := rng2 1 ((rows.length - low) / 2 + 1) (by omega) (by omega)
  rw [Nat.add_sub_cancel] at rg
  obtain ⟨es, s3, s4, s5, s6, f, fl, fm⟩ := pf_loop rows low hr hl n ((rows.length - low) / 2) 1 [eD (.row rows[low], low + 1)] .no .no .no .no (Nat.le_refl _) (fun m hm => by omega) (by simp; omega)
  have e1 : (sFor (gV 3) PFr PB) (QE rows low [eD (.row rows[low], low + 1)] .no .no .no .no) n = some (.ok (.nx (QE rows low ([eD (.row rows[low], low + 1)] ++ es.map fun q => eD (bk rows low q)) s3 s4 s5 s6)), n) := by
    rw [sFor_ap, bind_ap]
    have ir : PFr (QE rows low [eD (.row rows[low], low + 1)] .no .no .no .no) n = some (.ok ((List.range ((rows.length - low) / 2)).map fun i : Nat => D.int ((1 + i : Nat) : Int)), n) := by
      have l := dLen_L rows
      have dv : dDiv (.int ((rows.length : Int) - low)) (.int 2) = some (.int (((rows.length - low) / 2 : Nat) : Int)) := by
        rw [dDiv_int (by omega) (by omega)]
        have q : ((rows.length : Int) - low) / 2 = (((rows.length - low) / 2 : Nat) : Int) := by omega
        rw [q]
      have mn : dMin2 [.int 20, .int (((rows.length - low) / 2 : Nat) : Int)] = some (.int (((rows.length - low) / 2 : Nat) : Int)) := by
        have q : ∀ k : Int, k ≤ 20 → (if k < 20 then k else 20) = k := fun k hk => by split <;> omega
        exact congrArg (fun k => some (D.int k)) (q _ (by omega))
      have c : (((rows.length - low) / 2 + 1 : Nat) : Int) = (((rows.length - low) / 2 : Nat) : Int) + 1 := rfl
      have one : ((1 : Nat) : Int) = 1 := rfl
      rw [c, one] at rg
      unfold QE
      generalize (((rows.length - low) / 2 : Nat) : Int) = HH at *
      generalize ((List.range ((rows.length - low) / 2)).map fun i : Nat => D.int ((1 + i : Nat) : Int)) = RR at *
      generalize (rows.length : Int) = LL at *
      generalize encL rows = R at *
      unfold PFr
      simp [l, dv, mn, rg]
    rw [ir, bindR_ok, f]
  let ES : List (Part × Nat) := (.row rows[low], low + 1) :: es.map (bk rows low)
  have eE : [eD (.row rows[low], low + 1)] ++ es.map (fun q => eD (bk rows low q)) = ES.map eD := by
    show eD _ :: _ = eD _ :: (es.map (bk rows low)).map eD
    rw [List.map_map]
    rfl
  rw [eE] at e1
  have hm : ∀ q ∈ es, 1 ≤ q.1 ∧ 2 ≤ q.2 ∧ q.2 ≤ 20 ∧ q.1 ≤ 20 ∧ low + q.1 ≤ rows.length := fun q hq => by
    obtain ⟨a, b, c, d, e⟩ := (fm q).mp hq
    have := e.1
    have : 1 * q.2 ≤ q.1 * q.2 := Nat.mul_le_mul a (Nat.le_refl _)
    have : q.1 * 1 ≤ q.1 * q.2 := Nat.mul_le_mul (Nat.le_refl _) (by omega)
    exact ⟨a, c, by omega, by omega, by omega⟩
  have pk : ∀ q ∈ ES, ∀ n, f_is_part [pD q.1] n = some (.ok (.bl (goodP q)), n) := fun q hq n => by
    rcases List.mem_cons.mp hq with rfl | hq
    · exact is_part_row (hr _ (List.getElem_mem h)) n
    · obtain ⟨y, hy, rfl⟩ := List.mem_map.mp hq
      obtain ⟨a, b, c, d, e⟩ := hm y hy
      have l := inn_len (rows := rows) (low := low) (many := y.1) e
      exact is_part_blk (by omega) (by omega) (by omega) (fun r hr' => hr r (mem_inn hr')) ((fm y).mp hy).2.2.2.1 n
  have fc := pf_comp rows low ES (by show (es.map (bk rows low)).length + 1 ≤ _; rw [List.length_map]; omega) pk s3 s4 s5 s6 n
  refine ⟨ES.filter goodP, ?_, fun p x => ?_⟩
  · have fz : frzE 2 (QE rows low (ES.map eD) s3 s4 s5 s6) = some [.val (encL rows), .val (.int low), .val (.lst (ES.map eD)), s3, s4, s5, s6, .no, .no] := rfl
    have e2 : sFrz 2 (QE rows low (ES.map eD) s3 s4 s5 s6) n = some (.ok (.nx [.val (encL rows), .val (.int low), .val (.lst (ES.map eD)), s3, s4, s5, s6, .no, .no]), n) := by
      rw [sFrz_ap, bind_ap, fz]
      rfl
    have go : PF [.val (encL rows), .val (.int low), .no, .no, .no, .no, .no, .no, .no] n = some (.ok (.ret (.lst ((ES.filter goodP).map eD))), n) := seq_go e0 (seq_go e1 (seq_go e2 (by rw [sRet_ap, bind_ap, fc]; rfl)))
    have sh : f_parts_from [encL rows, .int low] n = bindR (PF ([encL rows, .int low].map Sl.val ++ List.replicate (9 - 2) Sl.no) n) runK := by
      unfold f_parts_from
      rw [runD_ap, bind_ap, PF_eq]
    have arg : ([encL rows, .int low].map Sl.val ++ List.replicate (9 - 2) Sl.no) = [.val (encL rows), .val (.int low), .no, .no, .no, .no, .no, .no, .no] := rfl
    rw [sh, arg, go]
    rfl
  · rw [List.mem_filter]
    constructor
    · rintro ⟨a, b⟩
      rcases List.mem_cons.mp a with e | a
      · cases e
        exact E.row hx
      · obtain ⟨y, hy, e⟩ := List.mem_map.mp a
        cases e
        obtain ⟨c1, c2, c3, c4, c5⟩ := (fm y).mp hy
        have b' : absI ((inn rows low y.1).map chg).sum ≤ 12 := of_decide_eq_true b
        obtain ⟨b1, b2⟩ := absI_le.mp b'
        exact E.blk ⟨c1, c3, c5.1, c4, b1, b2, c5.2⟩
    · intro e
      cases e with
      | row k =>
        rw [hx] at k
        cases k
        exact ⟨List.mem_cons_self, rfl⟩
      | @blk m t k =>
        have h1 := k.fit
        have h2 := k.t2
        have : m * 2 ≤ m * t := Nat.mul_le_mul (Nat.le_refl _) h2
        refine ⟨List.mem_cons_of_mem _ (List.mem_map.mpr ⟨(m, t), (fm (m, t)).mpr ⟨k.m1, by show m < 1 + (rows.length - low) / 2; omega, h2, k.ev, h1, k.eq⟩, rfl⟩), decide_eq_true (absI_le.mpr ⟨k.lo, k.hi⟩)⟩
end K47
end

section
set_option Elab.async false
set_option linter.all false
set_option autoImplicit false
set_option maxRecDepth 100000
namespace K47
open DL PySem L2 P_k47_whole_charts PyProof.Rows
theorem forD_chkM {α : Type} (h : α → D) (g : GX) (b : SX) (P : α → Bool) (I : DL.Env → Prop) (n : Int) : ∀ (w : List α), (∀ x ∈ w, ∀ ρ, I ρ → ∃ ρ1, g (h x) ρ = some ρ1 ∧ (P x = true → ∃ ρ2, b ρ1 n = some (.ok (.nx ρ2), n) ∧ I ρ2) ∧ (P x = false → b ρ1 n = some (.ok (.ret (.bl false)), n))) →
    ∀ ρ, I ρ → (w.all P = true → ∃ ρ', forD g b (w.map h) ρ n = some (.ok (.nx ρ'), n) ∧ I ρ') ∧ (w.all P = false → forD g b (w.map h) ρ n = some (.ok (.ret (.bl false)), n))
  | [], _, ρ, hI => ⟨fun _ => ⟨ρ, rfl, hI⟩, fun e => by simp at e⟩
  | x :: w, hb, ρ, hI => by
    obtain ⟨ρ1, h1, h2, h3⟩ := hb x List.mem_cons_self ρ hI
    rw [List.map_cons, forD_cons]
    cases hp : P x with
    | true =>
      obtain ⟨ρ2, h4, h5⟩ := h2 hp
      obtain ⟨k1, k2⟩ := forD_chkM h g b P I n w (fun x hx => hb x (List.mem_cons_of_mem _ hx)) ρ2 h5
      rw [List.all_cons, hp, Bool.true_and]
      refine ⟨fun e => ?_, fun e => ?_⟩
      · obtain ⟨ρ', h6, h7⟩ := k1 e
        exact ⟨ρ', by simp [h1, h4, h6], h7⟩
      · simp [h1, h4, k2 e]
    | false =>
      rw [List.all_cons, hp, Bool.false_and]
      exact ⟨(fun e => by cases e), (fun _ => by simp [h1, h3 hp])⟩
theorem sum_runG {α : Type} (h : α → D) (v : Nat) (f : FX) (F : α → Int) (it : IX) (ρ : DL.Env) (rs : List α) (hl : rs.length ≤ 1000) (hf : ∀ r ∈ rs, ∀ n, f [h r] n = some (.ok (.int (F r)), n)) (n : Int) (hi : it ρ n = some (.ok (rs.map h), n)) (hv : ∀ d : D, eVar v ((hide (wipeD ρ [v])).set v (.val d)) n = some (.ok d, n)) :
    eB dSum (eCons (eComp [v] (gV v) it tYesD (eCall f (eCons (eVar v) eNil))) eNil) ρ n = some (.ok (.int (rs.map F).sum), n) := by
  have c := comp_all h (compB [v] (gV v) tYesD (eCall f (eCons (eVar v) eNil)) ρ) (fun r => D.int (F r)) n rs fun r hr => by
    have e := hf r hr n
    have x := hv (h r)
    rw [compB_ap, gV_ap, bind_ap, opt_some, bindR_ok]
    generalize (h r : D) = Z at *
    generalize (hide (wipeD ρ [v])).set v (.val Z) = ρ1 at *
    simp [x, e]
  have z : (rs.map fun r => D.int (F r)).length ≤ 16777216 := by rw [List.length_map]; omega
  have ml := mkLst_of z
  have s := sum_map F rs
  generalize (rs.map fun r => D.int (F r)) = B at *
  generalize (rs.map h) = A at *
  generalize (rs.map F).sum = S at *
  have : eComp [v] (gV v) it tYesD (eCall f (eCons (eVar v) eNil)) ρ n = some (.ok (.lst B), n) := by
    rw [eComp_ap, bind_ap, hi, bindR_ok, bind_ap, calm_ap, c, calmR_ok, bindR_ok, ml, opt_some]
  generalize eComp [v] (gV v) it tYesD (eCall f (eCons (eVar v) eNil)) = CC at *
  simp [this, s]
theorem all_runG {α : Type} (h : α → D) (v : Nat) (e0 : EX) (F : α → Bool) (it : IX) (ρ : DL.Env) (rs : List α) (hl : rs.length ≤ 1000) (n : Int) (hf : ∀ r ∈ rs, e0 ((hide (wipeD ρ [v])).set v (.val (h r))) n = some (.ok (.bl (F r)), n)) (hi : it ρ n = some (.ok (rs.map h), n)) :
    eB dAll (eCons (eComp [v] (gV v) it tYesD e0) eNil) ρ n = some (.ok (.bl (rs.all F)), n) := by
  have c := comp_all h (compB [v] (gV v) tYesD e0 ρ) (fun r => D.bl (F r)) n rs fun r hr => by
    have e := hf r hr
    rw [compB_ap, gV_ap, bind_ap, opt_some, bindR_ok]
    generalize (hide (wipeD ρ [v])).set v (.val (h r)) = ρ1 at *
    simp [e]
  have z : (rs.map fun r => D.bl (F r)).length ≤ 16777216 := by rw [List.length_map]; omega
  have ml := mkLst_of z
  have s := all_map F rs
  generalize (rs.map fun r => D.bl (F r)) = B at *
  generalize (rs.map h) = A at *
  generalize rs.all F = S at *
  have : eComp [v] (gV v) it tYesD e0 ρ n = some (.ok (.lst B), n) := by
    rw [eComp_ap, bind_ap, hi, bindR_ok, bind_ap, calm_ap, c, calmR_ok, bindR_ok, ml, opt_some]
  generalize eComp [v] (gV v) it tYesD e0 = CC at *
  simp [this, s]
/-! ### what a chart shows -/
def FPa0 : EX := (e1 (dFld 3 "parts") (eVar 0))
def FBo : EX := (e1 (dFld 3 "bounds") (eVar 0))
def SH0 : SX := (sExp (eCall (f_check_chart) (eCons (eVar 1) eNil)))
def SHa : EX := (eB dAll (eCons (eComp [3] (gV 3) (iOf FPa0) tYesD (eCall (f_is_constant) (eCons (eVar 3) eNil))) eNil))
def SH1 : SX := (sIf (tOrD (tNotD (tTru (e1 (dIsi "tuple") FPa0))) (tNotD (tTru SHa))) (sRet (eC (.bl false))) sNx)
def SH2 : SX := (sIf (tOrD (tB (e2 dNe (eCall (f_unrolled) (eCons FPa0 eNil)) (eVar 1))) (tOrD (tB (e2 dNe (eB dLen (eCons FBo eNil)) (e2 dAdd (eB dLen (eCons (eVar 1) eNil)) (eC (.int 1))))) (tB (e2 dGt (e2 dIx FBo (eC (.int 0))) (eC (.int 0)))))) (sRet (eC (.bl false))) sNx)
def SHt : SX := (sIf (tB (e2 dGt (e2 dIxA FBo (eVar 4)) (e2 dAdd (e2 dIxA FBo (eVar 2)) (eCall (f_part_cost) (eCons (eVar 3) eNil))))) (sRet (eC (.bl false))) sNx)
def SHi : SX := (sFor (gT (gsC (gV 3) (gsC (gV 4) gsN))) (iOf (eCall (f_parts_from) (eCons (eVar 1) (eCons (eVar 2) eNil)))) SHt)
def SH3 : SX := (sFor (gV 2) (iRng1D (eCons (eB dLen (eCons (eVar 1) eNil)) eNil)) SHi)
def SHs : EX := (eB dSum (eCons (eComp [3] (gV 3) (iOf FPa0) tYesD (eCall (f_part_cost) (eCons (eVar 3) eNil))) eNil))
def SH4 : SX := (sRet (e2 dLeA SHs (e2 dIxA FBo (eB dLen (eCons (eVar 1) eNil)))))
def SH : SX := (sSeq SH0 (sSeq SH1 (sSeq SH2 (sSeq SH3 SH4))))
theorem SH_eq : g_Chart_shows = SH := rfl
theorem fp_run (ps : List Part) (bs : List Int) (r : DL.Env) (n : Int) : FPa0 (.val (chD ps bs) :: r) n = some (.ok (.tup (ps.map pD)), n) := by
  have e := fld_p (.tup (ps.map pD)) (.lst (bs.map D.int))
  unfold FPa0 chD
  generalize (D.obj 3 ["parts", "bounds"] [.tup (ps.map pD), .lst (bs.map D.int)]) = Z at *
  simp [e]
theorem fbo_run (ps : List Part) (bs : List Int) (r : DL.Env) (n : Int) : FBo (.val (chD ps bs) :: r) n = some (.ok (.lst (bs.map D.int)), n) := by
  have e := fld_b (.tup (ps.map pD)) (.lst (bs.map D.int))
  unfold FBo chD
  generalize (D.obj 3 ["parts", "bounds"] [.tup (ps.map pD), .lst (bs.map D.int)]) = Z at *
  simp [e]
section
variable (rows : List Row) (hr : ∀ r ∈ rows, Ow r) (hl : rows.length ≤ 20) (ps : List Part) (hp : ∀ p ∈ ps, Op p) (hpl : ps.length ≤ 1000)
def ES (rows : List Row) (ps : List Part) (bs : List Int) (s2 s3 s4 : Sl) : DL.Env := [.val (chD ps bs), .val (encL rows), s2, s3, s4]
include hr hl hp hpl
theorem sh0_ok (bs : List Int) (n : Int) : SH0 (ES rows ps bs .no .no .no) n = some (.ok (.nx (ES rows ps bs .no .no .no)), n) := by
  have c := chart_ok rows hr (by omega) n
  unfold ES
  generalize encL rows = R at *
  unfold SH0
  simp [c]
theorem sh1_ok (bs : List Int) (n : Int) : SH1 (ES rows ps bs .no .no .no) n = some (.ok (.nx (ES rows ps bs .no .no .no)), n) := by
  have f : FPa0 (ES rows ps bs .no .no .no) n = some (.ok (.tup (ps.map pD)), n) := fp_run _ _ _ _
  have it : dItems (.tup (ps.map pD)) = some (ps.map pD) := rfl
  have i1 : dIsi "tuple" (.tup (ps.map pD)) = some (.bl true) := rfl
  have A := all_runG pD 3 (eCall (f_is_constant) (eCons (eVar 3) eNil)) (fun _ => true) (iOf FPa0) (ES rows ps bs .no .no .no) ps hpl n (fun p hp' => by
    have e := const_ok (hp p hp') n
    have v := evar_hs (v := 3) (ρ := ES rows ps bs .no .no .no) (d := pD p) (n := n) (by show 3 < 5; omega)
    generalize (hide (wipeD (ES rows ps bs .no .no .no) [3])).set 3 (.val (pD p)) = ρ1 at *
    generalize pD p = Y at *
    simp [e, v]) (by rw [iOf_ap, bind_ap, f, bindR_ok, it, opt_some])
  have at' : ps.all (fun _ => true) = true := by rw [List.all_eq_true]; exact fun _ _ => rfl
  rw [at'] at A
  replace A : SHa (ES rows ps bs .no .no .no) n = some (.ok (.bl true), n) := A
  generalize ES rows ps bs .no .no .no = ρ at *
  generalize (D.tup (ps.map pD)) = P at *
  unfold SH1
  generalize FPa0 = fp at *
  simp [f, i1, A]
theorem shows_no (bs : List Int) (h : ps.flatMap pun ≠ rows ∨ bs.length ≠ rows.length + 1) (n : Int) : f_Chart_shows [chD ps bs, encL rows] n = some (.ok (.bl false), n) := by
  have e0 := sh0_ok rows hr hl ps hp hpl bs n
  have e1 := sh1_ok rows hr hl ps hp hpl bs n
  have f : FPa0 (ES rows ps bs .no .no .no) n = some (.ok (.tup (ps.map pD)), n) := fp_run _ _ _ _
  have f2 : FBo (ES rows ps bs .no .no .no) n = some (.ok (.lst (bs.map D.int)), n) := fbo_run _ _ _ _
  have u := unrolled_ok ps hp hpl n
  have v1 : eVar 1 (ES rows ps bs .no .no .no) n = some (.ok (encL rows), n) := rfl
  have ne := dNe_L (ps.flatMap pun) rows
  have l1 := dLen_L rows
  have l2 : dLen [.lst (bs.map D.int)] = some (.int bs.length) := by simp
  have e2 : SH2 (ES rows ps bs .no .no .no) n = some (.ok (.ret (.bl false)), n) := by
    generalize ES rows ps bs .no .no .no = ρ at *
    generalize (D.tup (ps.map pD)) = P at *
    generalize (D.lst (bs.map D.int)) = BB at *
    unfold SH2
    generalize FPa0 = fp at *
    generalize FBo = fb at *
    by_cases q : ps.flatMap pun = rows
    · have q2 : ¬ (bs.length : Int) = (rows.length : Int) + 1 := by
        rcases h with h | h
        · exact absurd q h
        · omega
      rw [decide_eq_true q] at ne
      generalize encL rows = R at *
      generalize encL (ps.flatMap pun) = R' at *
      simp [f, f2, u, v1, ne, l1, l2, q2]
    · rw [decide_eq_false q] at ne
      generalize encL rows = R at *
      generalize encL (ps.flatMap pun) = R' at *
      simp [f, u, v1, ne]
  have go : SH (ES rows ps bs .no .no .no) n = some (.ok (.ret (.bl false)), n) := seq_go e0 (seq_go e1 (by rw [sSeq_ap, bind_ap, e2, bindR_ok, seqK_ret, pure_ap]))
  have sh : f_Chart_shows [chD ps bs, encL rows] n = bindR (SH ([chD ps bs, encL rows].map Sl.val ++ List.replicate (5 - 2) Sl.no) n) runK := by
    unfold f_Chart_shows
    rw [runD_ap, bind_ap, SH_eq]
  have arg : ([chD ps bs, encL rows].map Sl.val ++ List.replicate (5 - 2) Sl.no) = ES rows ps bs .no .no .no := rfl
  rw [sh, arg, go]
  rfl
end
/-- no part from a place on goes below the numbers -/
noncomputable def okAt (rows : List Row) (b : Nat → Int) (low : Nat) : Bool := @decide (∀ p x, E rows low p x → b x ≤ b low + pc p) (Classical.propDecidable _)
theorem okAt_iff {rows : List Row} {b : Nat → Int} {low : Nat} : okAt rows b low = true ↔ ∀ p x, E rows low p x → b x ≤ b low + pc p := by
  unfold okAt; exact @decide_eq_true_iff _ (Classical.propDecidable _)
def bl (b : Nat → Int) (n : Nat) : List Int := (List.range (n + 1)).map b
theorem bl_get (b : Nat → Int) {n j : Nat} (h : j ≤ n) : ((bl b n).map D.int)[j]? = some (.int (b j)) := by
  unfold bl
  rw [List.getElem?_map, List.getElem?_map, List.getElem?_range (by omega)]
  rfl
section
variable (rows : List Row) (hr : ∀ r ∈ rows, Ow r) (hl : rows.length ≤ 20) (ps : List Part) (hp : ∀ p ∈ ps, Op p) (hpl : ps.length ≤ 1000)
include hr hl hp hpl
theorem shows_ok (b : Nat → Int) (h : ps.flatMap pun = rows) (b0 : b 0 = 0) (n : Int) : f_Chart_shows [chD ps (bl b rows.length), encL rows] n = some (.ok (.bl ((List.range rows.length).all (okAt rows b) && decide ((ps.map pc).sum ≤ b rows.length))), n) := by
  generalize hbs : bl b rows.length = bs
  have bl2 : ∀ j, j ≤ rows.length → (bs.map D.int)[j]? = some (.int (b j)) := fun j hj => by rw [← hbs]; exact bl_get b hj
  have lb : bs.length = rows.length + 1 := by rw [← hbs]; unfold bl; rw [List.length_map, List.length_range]
  have e0 := sh0_ok rows hr hl ps hp hpl bs n
  have e1 := sh1_ok rows hr hl ps hp hpl bs n
  have u := unrolled_ok ps hp hpl n
  have l1 := dLen_L rows
  have l2 : dLen [.lst (bs.map D.int)] = some (.int bs.length) := by simp
  have FPa : ∀ s2 s3 s4, FPa0 (ES rows ps bs s2 s3 s4) n = some (.ok (.tup (ps.map pD)), n) := fun _ _ _ => fp_run _ _ _ _
  have FBoa : ∀ s2 s3 s4, FBo (ES rows ps bs s2 s3 s4) n = some (.ok (.lst (bs.map D.int)), n) := fun _ _ _ => fbo_run _ _ _ _
  have v1 : ∀ s2 s3 s4, eVar 1 (ES rows ps bs s2 s3 s4) n = some (.ok (encL rows), n) := fun _ _ _ => rfl
  have ne := dNe_L (ps.flatMap pun) rows
  rw [decide_eq_true h] at ne
  have x0 : dIx (.lst (bs.map D.int)) (.int 0) = some (.int 0) := by
    have := ixL_nat (bl2 0 (by omega))
    rw [b0] at this
    exact this
  have e2 : SH2 (ES rows ps bs .no .no .no) n = some (.ok (.nx (ES rows ps bs .no .no .no)), n) := by
    have f := FPa .no .no .no
    have f2 := FBoa .no .no .no
    have v1 := v1 .no .no .no
    generalize ES rows ps bs .no .no .no = ρ at *
    generalize (D.tup (ps.map pD)) = P at *
    generalize (D.lst (bs.map D.int)) = BB at *
    unfold SH2
    generalize FPa0 = fp at *
    generalize FBo = fb at *
    have q2 : (bs.length : Int) = (rows.length : Int) + 1 := by omega
    generalize encL rows = R at *
    generalize encL (ps.flatMap pun) = R' at *
    simp [f, f2, u, v1, ne, l1, l2, q2, x0]
  -- one place
  have inner : ∀ low, low < rows.length → ∀ s3 s4, (okAt rows b low = true → ∃ s3' s4', SHi (ES rows ps bs (.val (.int low)) s3 s4) n = some (.ok (.nx (ES rows ps bs (.val (.int low)) s3' s4')), n)) ∧ (okAt rows b low = false → SHi (ES rows ps bs (.val (.int low)) s3 s4) n = some (.ok (.ret (.bl false)), n)) := fun low hlow s3 s4 => by
    obtain ⟨es, ef, em⟩ := parts_from_ok rows low hr hl hlow n
    have it : iOf (eCall (f_parts_from) (eCons (eVar 1) (eCons (eVar 2) eNil))) (ES rows ps bs (.val (.int low)) s3 s4) n = some (.ok (es.map eD), n) := by
      have dl : dItems (.lst (es.map eD)) = some (es.map eD) := rfl
      unfold ES
      generalize (es.map eD) = L at *
      generalize encL rows = R at *
      simp [ef, dl]
    have lp := forD_chkM eD (gT (gsC (gV 3) (gsC (gV 4) gsN))) SHt (fun q => decide (b q.2 ≤ b low + pc q.1)) (fun ρ => ∃ s3 s4, ρ = ES rows ps bs (.val (.int low)) s3 s4) n es (fun q hq ρ ⟨s3, s4, hρ⟩ => by
      subst hρ
      have eq := (em q.1 q.2).mp hq
      have lt := eq.lt
      have pk := part_cost_ok (eq.op hr hl) n
      refine ⟨ES rows ps bs (.val (.int low)) (.val (pD q.1)) (.val (.int q.2)), rfl, ?_⟩
      have xa := ixAL_nat (bl2 q.2 lt.2)
      have xb := ixAL_nat (bl2 low (by omega))
      have f2 := FBoa (.val (.int low)) (.val (pD q.1)) (.val (.int q.2))
      have w2 : eVar 2 (ES rows ps bs (.val (.int low)) (.val (pD q.1)) (.val (.int q.2))) n = some (.ok (.int low), n) := rfl
      have w3 : eVar 3 (ES rows ps bs (.val (.int low)) (.val (pD q.1)) (.val (.int q.2))) n = some (.ok (pD q.1), n) := rfl
      have w4 : eVar 4 (ES rows ps bs (.val (.int low)) (.val (pD q.1)) (.val (.int q.2))) n = some (.ok (.int q.2), n) := rfl
      have main : SHt (ES rows ps bs (.val (.int low)) (.val (pD q.1)) (.val (.int q.2))) n = selB (decide (b low + pc q.1 < b q.2)) (some (.ok (.ret (.bl false)), n)) (some (.ok (.nx (ES rows ps bs (.val (.int low)) (.val (pD q.1)) (.val (.int q.2)))), n)) := by
        generalize ES rows ps bs (.val (.int low)) (.val (pD q.1)) (.val (.int q.2)) = ρ at *
        generalize pD q.1 = Y at *
        generalize (D.lst (bs.map D.int)) = BB at *
        unfold SHt
        generalize FBo = fb at *
        by_cases z : b low + pc q.1 < b q.2
        · simp [f2, w2, w3, w4, xa, xb, pk, z]
        · simp [f2, w2, w3, w4, xa, xb, pk, z]
      rw [main]
      refine ⟨fun z => ⟨ES rows ps bs (.val (.int low)) (.val (pD q.1)) (.val (.int q.2)), ?_, .val (pD q.1), .val (.int q.2), rfl⟩, fun z => ?_⟩
      · have z := of_decide_eq_true z
        rw [decide_eq_false (by omega), selB_false]
      · have z := of_decide_eq_false z
        rw [decide_eq_true (by omega), selB_true]) (ES rows ps bs (.val (.int low)) s3 s4) ⟨s3, s4, rfl⟩
    have al : es.all (fun q => decide (b q.2 ≤ b low + pc q.1)) = okAt rows b low := by
      rw [Bool.eq_iff_iff, okAt_iff, List.all_eq_true]
      exact ⟨fun z p x e => of_decide_eq_true (z (p, x) ((em p x).mpr e)), fun z q hq => decide_eq_true (z q.1 q.2 ((em q.1 q.2).mp hq))⟩
    rw [al] at lp
    unfold SHi
    rw [sFor_ap, bind_ap, it, bindR_ok]
    refine ⟨fun z => ?_, lp.2⟩
    obtain ⟨ρ', k1, s3', s4', rfl⟩ := lp.1 z
    exact ⟨s3', s4', k1⟩
  have outer := forD_chkM (fun i : Nat => D.int i) (gV 2) SHi (okAt rows b) (fun ρ => ∃ s2 s3 s4, ρ = ES rows ps bs s2 s3 s4) n (List.range rows.length) (fun low hlow ρ ⟨s2, s3, s4, hρ⟩ => by
    subst hρ
    obtain ⟨k1, k2⟩ := inner low (List.mem_range.mp hlow) s3 s4
    refine ⟨ES rows ps bs (.val (.int low)) s3 s4, rfl, fun z => ?_, k2⟩
    obtain ⟨s3', s4', k3⟩ := k1 z
    exact ⟨ES rows ps bs (.val (.int low)) s3' s4', k3, .val (.int low), s3', s4', rfl⟩) (ES rows ps bs .no .no .no) ⟨_, _, _, rfl⟩
  have rg : iRng1D (eCons (eB dLen (eCons (eVar 1) eNil)) eNil) (ES rows ps bs .no .no .no) n = some (.ok ((List.range rows.length).map fun i : Nat => D.int i), n) := by
    have v1 := v1 .no .no .no
    have r := rng1 rows.length (by omega)
    generalize ES rows ps bs .no .no .no = ρ at *
    generalize ((List.range rows.length).map fun i : Nat => D.int i) = RR at *
    generalize encL rows = R at *
    simp [v1, l1, r]
  have S3 : SH3 (ES rows ps bs .no .no .no) n = forD (gV 2) SHi ((List.range rows.length).map fun i : Nat => D.int i) (ES rows ps bs .no .no .no) n := by
    unfold SH3
    rw [sFor_ap, bind_ap, rg, bindR_ok]
  rw [← S3] at outer
  have sh : f_Chart_shows [chD ps bs, encL rows] n = bindR (SH ([chD ps bs, encL rows].map Sl.val ++ List.replicate (5 - 2) Sl.no) n) runK := by
    unfold f_Chart_shows
    rw [runD_ap, bind_ap, SH_eq]
  have arg : ([chD ps bs, encL rows].map Sl.val ++ List.replicate (5 - 2) Sl.no) = ES rows ps bs .no .no .no := rfl
  rw [sh, arg]
  cases al : (List.range rows.length).all (okAt rows b) with
  | false =>
    have go : SH (ES rows ps bs .no .no .no) n = some (.ok (.ret (.bl false)), n) := seq_go e0 (seq_go e1 (seq_go e2 (by rw [sSeq_ap, bind_ap, outer.2 al, bindR_ok, seqK_ret, pure_ap])))
    rw [go]
    rfl
  | true =>
    obtain ⟨ρ', k1, s2, s3, s4, rfl⟩ := outer.1 al
    have S := sum_runG pD 3 f_part_cost pc (iOf FPa0) (ES rows ps bs s2 s3 s4) ps hpl (fun p hp' n => part_cost_ok (hp p hp') n) n (by
      have it : dItems (.tup (ps.map pD)) = some (ps.map pD) := rfl
      rw [iOf_ap, bind_ap, FPa, bindR_ok, it, opt_some]) (fun d => evar_hs (by show 3 < 5; omega))
    replace S : SHs (ES rows ps bs s2 s3 s4) n = some (.ok (.int (ps.map pc).sum), n) := S
    have e4 : SH4 (ES rows ps bs s2 s3 s4) n = some (.ok (.ret (.bl (decide ((ps.map pc).sum ≤ b rows.length)))), n) := by
      have f2 := FBoa s2 s3 s4
      have v1 := v1 s2 s3 s4
      have xa := ixAL_nat (bl2 rows.length (Nat.le_refl _))
      have le : dLeA (.int (ps.map pc).sum) (.int (b rows.length)) = some (.bl (decide ((ps.map pc).sum ≤ b rows.length))) := rfl
      generalize ES rows ps bs s2 s3 s4 = ρ at *
      generalize (D.lst (bs.map D.int)) = BB at *
      generalize encL rows = R at *
      generalize decide ((ps.map pc).sum ≤ b rows.length) = DD at *
      unfold SH4
      generalize FBo = fb at *
      generalize SHs = ss at *
      simp [f2, v1, xa, S, l1, le]
    have go : SH (ES rows ps bs .no .no .no) n = some (.ok (.ret (.bl (decide ((ps.map pc).sum ≤ b rows.length)))), n) := seq_go e0 (seq_go e1 (seq_go e2 (seq_go k1 e4)))
    rw [go]
    rfl
end
end K47
end

section
set_option Elab.async false
set_option linter.all false
set_option autoImplicit false
set_option maxRecDepth 100000
namespace K47
open DL PySem L2 P_k47_whole_charts PyProof.Rows
def PD0 (rows : List Row) (low : Nat) (done : List (Part × Nat)) : Nat → Nat → Int → Prop := fun l h c => PE0 rows low l h c ∨ (l = low ∧ ∃ p, (p, h) ∈ done ∧ c = pc p)
theorem inv_step {rows : List Row} {low h : Nat} {done : List (Part × Nat)} {s : Nat → Option Int} {p : Part} {v : Int} (I : Inv (PD0 rows low done) s) (hd : ∀ q ∈ done, E rows low q.1 q.2) (e : E rows low p h) (hv : s low = some v) : Inv (PD0 rows low (done ++ [(p, h)])) (relax s h (v + pc p)) := by
  refine (I.relax (low := low) (h := h) (c := pc p) (fun l h' c q => ?_) e.lt.1 hv).congr fun l h' c => ?_
  · rcases q with q | ⟨rfl, p', q1, q2⟩
    · have := PE0.lt _ _ _ q; omega
    · have := (hd _ q1).lt; exact ⟨this.1, Nat.le_refl _⟩
  · unfold PD0
    constructor
    · rintro ((a | ⟨a, p', b, c'⟩) | ⟨rfl, rfl, rfl⟩)
      · exact .inl a
      · exact .inr ⟨a, p', List.mem_append_left _ b, c'⟩
      · exact .inr ⟨rfl, p, by simp, rfl⟩
    · rintro (a | ⟨a, p', b, c'⟩)
      · exact .inl (.inl a)
      · rcases List.mem_append.mp b with b | b
        · exact .inl (.inr ⟨a, p', b, c'⟩)
        · have := List.mem_singleton.mp b
          cases this
          exact .inr ⟨a, rfl, c'⟩
theorem inv_start {rows : List Row} {low : Nat} {s : Nat → Option Int} (I : Inv (PE0 rows low) s) : Inv (PD0 rows low []) s := I.congr fun l h c => by
  unfold PD0
  constructor
  · exact .inl
  · rintro (a | ⟨_, p, b, _⟩)
    · exact a
    · simp at b
theorem inv_end {rows : List Row} {low : Nat} {done : List (Part × Nat)} {s : Nat → Option Int} (I : Inv (PD0 rows low done) s) (hd : ∀ p h, (p, h) ∈ done ↔ E rows low p h) : Inv (PE0 rows (low + 1)) s := I.congr fun l h c => by
  unfold PD0 PE0
  constructor
  · rintro (⟨a, b⟩ | ⟨rfl, p, b, c⟩)
    · exact ⟨by omega, b⟩
    · exact ⟨by omega, p, (hd p h).mp b, c⟩
  · rintro ⟨a, p, b, c⟩
    by_cases z : l = low
    · subst z; exact .inr ⟨rfl, p, (hd p h).mpr b, c⟩
    · exact .inl ⟨by omega, p, b, c⟩
/-! ### the cheapest parts -/
abbrev Cl := Nat → Option (Int × List Part)
def cell (o : Option (Int × List Part)) : D := match o with
  | none => .non
  | some (u, ps) => .tup [.int u, .tup (ps.map pD)]
def cl (c : Cl) (n : Nat) : List D := (List.range (n + 1)).map fun j => cell (c j)
theorem cl_get (c : Cl) {n j : Nat} (h : j ≤ n) : (cl c n)[j]? = some (cell (c j)) := by
  unfold cl
  rw [List.getElem?_map, List.getElem?_range (by omega)]
  rfl
theorem set_range {α : Type} (f : Nat → α) (x : α) : ∀ (N h : Nat), ((List.range N).map f).set h x = (List.range N).map fun j => if j = h then x else f j := by
  intro N h
  apply List.ext_getElem?
  intro i
  rw [List.getElem?_set]
  simp only [List.length_map, List.length_range, List.getElem?_map]
  by_cases e : h = i
  · subst e
    by_cases z : h < N
    · rw [if_pos rfl, if_pos z, List.getElem?_range z]; simp
    · rw [if_pos rfl, if_neg z, List.getElem?_eq_none (by simp; omega)]; rfl
  · rw [if_neg e]
    by_cases z : i < N
    · rw [List.getElem?_range z]; simp [Ne.symm e]
    · rw [List.getElem?_eq_none (by simp; omega)]; rfl
def rlx (c : Cl) (h : Nat) (u : Int) (ps : List Part) : Cl := fun j => if j = h then (match c h with | none => some (u, ps) | some (w, qs) => if u < w then some (u, ps) else some (w, qs)) else c j
def sof (c : Cl) : Nat → Option Int := fun j => (c j).map (·.1)
theorem sof_rlx (c : Cl) (h : Nat) (u : Int) (ps : List Part) : sof (rlx c h u ps) = relax (sof c) h u := by
  funext j
  unfold sof rlx relax
  by_cases e : j = h
  · subst e
    rw [if_pos rfl, if_pos rfl]
    cases q : c j with
    | none => simp [q]
    | some x =>
      obtain ⟨w, qs⟩ := x
      by_cases z : u < w <;> simp [z, q]
  · rw [if_neg e, if_neg e]
structure Gd (rows : List Row) (c : Cl) : Prop where
  g : ∀ j u ps, c j = some (u, ps) → (∀ p ∈ ps, Op p) ∧ ps.flatMap pun = rows.take j ∧ (ps.map pc).sum = u ∧ ps.length ≤ j
theorem Gd.rlx {rows : List Row} {c : Cl} {low h : Nat} {v : Int} {qs : List Part} {p : Part} (g : Gd rows c) (hc : c low = some (v, qs)) (e : E rows low p h) (hr : ∀ r ∈ rows, Ow r) (hl : rows.length ≤ 20) : Gd rows (rlx c h (v + pc p) (qs ++ [p])) where
  g := fun j u ps k => by
    have new : ∀ u ps, (u, ps) = (v + pc p, qs ++ [p]) → (∀ p ∈ ps, Op p) ∧ ps.flatMap pun = rows.take h ∧ (ps.map pc).sum = u ∧ ps.length ≤ h := fun u ps z => by
      cases z
      obtain ⟨g1, g2, g3, g4⟩ := g.g low v qs hc
      have := e.lt
      refine ⟨fun q hq => ?_, ?_, ?_, ?_⟩
      · rcases List.mem_append.mp hq with hq | hq
        · exact g1 q hq
        · rw [List.mem_singleton.mp hq]; exact e.op hr hl
      · rw [List.flatMap_append, g2]
        simp only [List.flatMap_cons, List.flatMap_nil, List.append_nil]
        exact e.un
      · rw [List.map_append, List.sum_append, g3]; simp
      · rw [List.length_append]; simp; omega
    unfold K47.rlx at k
    by_cases z : j = h
    · subst z
      rw [if_pos rfl] at k
      cases q : c j with
      | none =>
        rw [q] at k
        cases k
        exact new _ _ rfl
      | some x =>
        obtain ⟨w, qs'⟩ := x
        rw [q] at k
        by_cases y : v + pc p < w
        · simp only [if_pos y] at k
          cases k
          exact new _ _ rfl
        · simp only [if_neg y] at k
          cases k
          exact g.g j _ _ q
    · rw [if_neg z] at k
      exact g.g j u ps k
def CB1 : SX := (sAsg (gV 5) (e2 dAdd (e2 dIx (eOwnIx 1 (eVar 2)) (eC (.int 0))) (eCall (f_part_cost) (eCons (eVar 3) eNil))))
def CBp : SX := (sPutL 1 (eVar 4) (eTup (eCons (eVar 5) (eCons (e2 dAdd (e2 dIx (eOwnIx 1 (eVar 2)) (eC (.int 1))) (eTup (eCons (eVar 3) eNil))) eNil))))
def CB2 : SX := (sIf (tOrD (tB (e1 (fun d => some (.bl (isNon d))) (eOwnIx 1 (eVar 4)))) (tB (e2 dLt (eVar 5) (e2 dIx (eOwnIx 1 (eVar 4)) (eC (.int 0)))))) CBp sNx)
def CB : SX := (sSeq CB1 CB2)
def CI : SX := (sFor (gT (gsC (gV 3) (gsC (gV 4) gsN))) (iOf (eCall (f_parts_from) (eCons (eVar 0) (eCons (eVar 2) eNil)))) CB)
def CE (rows : List Row) (ds : List D) (s2 s3 s4 s5 : Sl) : DL.Env := [.val (encL rows), .own (.lst ds), s2, s3, s4, s5, .no, .no]
theorem cb_run (rows : List Row) (hr : ∀ r ∈ rows, Ow r) (hl : rows.length ≤ 20) (c : Cl) (g : Gd rows c) (low h : Nat) (p : Part) (v : Int) (qs : List Part) (hc : c low = some (v, qs)) (e : E rows low p h) (s5 : Sl) (n : Int) :
    CB (CE rows (cl c rows.length) (.val (.int low)) (.val (pD p)) (.val (.int h)) s5) n = some (.ok (.nx (CE rows (cl (rlx c h (v + pc p) (qs ++ [p])) rows.length) (.val (.int low)) (.val (pD p)) (.val (.int h)) (.val (.int (v + pc p))))), n) := by
  have lt := e.lt
  obtain ⟨g1, g2, g3, g4⟩ := g.g low v qs hc
  have pk := part_cost_ok (e.op hr hl) n
  have xl : dIx (.lst (cl c rows.length)) (.int (low : Int)) = some (.tup [.int v, .tup (qs.map pD)]) := by
    have := ixL_nat (cl_get c (n := rows.length) (j := low) (by omega))
    rw [hc] at this
    exact this
  have xh : dIx (.lst (cl c rows.length)) (.int (h : Int)) = some (cell (c h)) := ixL_nat (cl_get c (n := rows.length) lt.2)
  have t0 : dIx (.tup [.int v, .tup (qs.map pD)]) (.int 0) = some (.int v) := rfl
  have t1 : dIx (.tup [.int v, .tup (qs.map pD)]) (.int 1) = some (.tup (qs.map pD)) := rfl
  have ad : dAdd (.tup (qs.map pD)) (.tup [pD p]) = some (.tup ((qs ++ [p]).map pD)) := by
    rw [List.map_append]
    exact mkTup_of (by rw [List.length_append, List.length_map]; simp; omega)
  have f1 : CB1 (CE rows (cl c rows.length) (.val (.int low)) (.val (pD p)) (.val (.int h)) s5) n = some (.ok (.nx (CE rows (cl c rows.length) (.val (.int low)) (.val (pD p)) (.val (.int h)) (.val (.int (v + pc p))))), n) := by
    unfold CE
    generalize pD p = Y at *
    generalize (D.tup [.int v, .tup (qs.map pD)]) = L at *
    generalize cl c rows.length = C0 at *
    generalize encL rows = R at *
    unfold CB1
    simp [xl, t0, pk]
  have put : CBp (CE rows (cl c rows.length) (.val (.int low)) (.val (pD p)) (.val (.int h)) (.val (.int (v + pc p)))) n = some (.ok (.nx (CE rows ((cl c rows.length).set h (cell (some (v + pc p, qs ++ [p])))) (.val (.int low)) (.val (pD p)) (.val (.int h)) (.val (.int (v + pc p))))), n) := by
    have us := uSet_ok (k := h) (d := cell (some (v + pc p, qs ++ [p]))) (ds := cl c rows.length) (by unfold cl; rw [List.length_map, List.length_range]; omega)
    have ce : cell (some (v + pc p, qs ++ [p])) = .tup [.int (v + pc p), .tup ((qs ++ [p]).map pD)] := rfl
    rw [ce] at us ⊢
    unfold CE
    generalize (cl c rows.length).set h (.tup [.int (v + pc p), .tup ((qs ++ [p]).map pD)]) = C1 at *
    generalize pD p = Y at *
    generalize (D.tup ((qs ++ [p]).map pD)) = Q1 at *
    generalize (D.tup (qs.map pD)) = Q0 at *
    generalize (D.tup [.int v, Q0]) = L at *
    generalize cl c rows.length = C0 at *
    generalize encL rows = R at *
    unfold CBp
    simp [xl, t1, ad, us]
  refine seq_go f1 ?_
  cases hh : c h with
  | none =>
    have fin : (cl c rows.length).set h (cell (some (v + pc p, qs ++ [p]))) = cl (rlx c h (v + pc p) (qs ++ [p])) rows.length := by
      unfold cl
      rw [set_range]
      refine List.map_congr_left fun j _ => ?_
      unfold rlx
      by_cases z : j = h
      · rw [if_pos z, if_pos z, hh]
      · rw [if_neg z, if_neg z]
    rw [fin] at put
    rw [hh] at xh
    have xh : dIx (.lst (cl c rows.length)) (.int (h : Int)) = some .non := xh
    unfold CB2
    rw [sIf_ap]
    have t : tOrD (tB (e1 (fun d => some (.bl (isNon d))) (eOwnIx 1 (eVar 4)))) (tB (e2 dLt (eVar 5) (e2 dIx (eOwnIx 1 (eVar 4)) (eC (.int 0))))) (CE rows (cl c rows.length) (.val (.int low)) (.val (pD p)) (.val (.int h)) (.val (.int (v + pc p)))) n = some (.ok true, n) := by
      unfold CE
      generalize cl c rows.length = C0 at *
      simp [xh]
    rw [bind_ap, t, bindR_ok, selB_true]
    exact put
  | some x =>
    obtain ⟨w, qs'⟩ := x
    rw [hh] at xh
    have xh : dIx (.lst (cl c rows.length)) (.int (h : Int)) = some (.tup [.int w, .tup (qs'.map pD)]) := xh
    have t : tOrD (tB (e1 (fun d => some (.bl (isNon d))) (eOwnIx 1 (eVar 4)))) (tB (e2 dLt (eVar 5) (e2 dIx (eOwnIx 1 (eVar 4)) (eC (.int 0))))) (CE rows (cl c rows.length) (.val (.int low)) (.val (pD p)) (.val (.int h)) (.val (.int (v + pc p)))) n = some (.ok (decide (v + pc p < w)), n) := by
      have u0 : dIx (.tup [.int w, .tup (qs'.map pD)]) (.int 0) = some (.int w) := rfl
      have u1 : isNon (.tup [.int w, .tup (qs'.map pD)]) = false := rfl
      unfold CE
      generalize (D.tup [.int w, .tup (qs'.map pD)]) = L at *
      generalize cl c rows.length = C0 at *
      generalize v + pc p = VV at *
      simp [xh, u0, u1]
    unfold CB2
    rw [sIf_ap, bind_ap, t, bindR_ok]
    by_cases y : v + pc p < w
    · rw [decide_eq_true y, selB_true, put]
      congr 5
      unfold cl
      rw [set_range]
      refine List.map_congr_left fun j _ => ?_
      unfold rlx
      by_cases z : j = h
      · rw [if_pos z, if_pos z, hh]
        show _ = cell (if v + pc p < w then some (v + pc p, qs ++ [p]) else some (w, qs'))
        rw [if_pos y]
      · rw [if_neg z, if_neg z]
    · rw [decide_eq_false y, selB_false, sNx_ap]
      congr 5
      unfold cl
      refine List.map_congr_left fun j _ => ?_
      unfold rlx
      by_cases z : j = h
      · subst z
        rw [if_pos rfl, hh]
        show _ = cell (if v + pc p < w then some (v + pc p, qs ++ [p]) else some (w, qs'))
        rw [if_neg y]
      · rw [if_neg z]
theorem ci_loop (rows : List Row) (hr : ∀ r ∈ rows, Ow r) (hl : rows.length ≤ 20) (low : Nat) (v : Int) (qs : List Part) (n : Int) : ∀ (es done : List (Part × Nat)) (c : Cl) (s3 s4 s5 : Sl), (∀ q ∈ es, E rows low q.1 q.2) → (∀ q ∈ done, E rows low q.1 q.2) → Gd rows c → c low = some (v, qs) → Inv (PD0 rows low done) (sof c) →
    ∃ (c' : Cl) (s3' s4' s5' : Sl), forD (gT (gsC (gV 3) (gsC (gV 4) gsN))) CB (es.map eD) (CE rows (cl c rows.length) (.val (.int low)) s3 s4 s5) n = some (.ok (.nx (CE rows (cl c' rows.length) (.val (.int low)) s3' s4' s5')), n) ∧ Gd rows c' ∧ Inv (PD0 rows low (done ++ es)) (sof c')
  | [], done, c, s3, s4, s5, _, _, g, _, I => ⟨c, s3, s4, s5, rfl, g, by rw [List.append_nil]; exact I⟩
  | q :: es, done, c, s3, s4, s5, he, hd, g, hc, I => by
    have e := he q List.mem_cons_self
    have b := cb_run rows hr hl c g low q.2 q.1 v qs hc e s5 n
    have I' := inv_step I hd e (by unfold sof; rw [hc]; rfl : sof c low = some v)
    rw [← sof_rlx c q.2 (v + pc q.1) (qs ++ [q.1])] at I'
    have hc' : rlx c q.2 (v + pc q.1) (qs ++ [q.1]) low = some (v, qs) := by
      unfold rlx
      rw [if_neg (by have := e.lt; omega), hc]
    obtain ⟨c', s3', s4', s5', k1, k2, k3⟩ := ci_loop rows hr hl low v qs n es (done ++ [q]) (rlx c q.2 (v + pc q.1) (qs ++ [q.1])) (.val (pD q.1)) (.val (.int q.2)) (.val (.int (v + pc q.1))) (fun x hx => he x (List.mem_cons_of_mem _ hx)) (fun x hx => by
      rcases List.mem_append.mp hx with hx | hx
      · exact hd x hx
      · rw [List.mem_singleton.mp hx]; exact e) (g.rlx hc e hr hl) hc' I'
    refine ⟨c', s3', s4', s5', ?_, k2, by rw [List.append_assoc] at k3; exact k3⟩
    rw [List.map_cons, forD_cons]
    have gt : gT (gsC (gV 3) (gsC (gV 4) gsN)) (eD q) (CE rows (cl c rows.length) (.val (.int low)) s3 s4 s5) = some (CE rows (cl c rows.length) (.val (.int low)) (.val (pD q.1)) (.val (.int q.2)) s5) := rfl
    rw [gt, bind_ap, opt_some, bindR_ok, bind_ap, b, bindR_ok, turnK_nx, k1]
theorem co_loop (rows : List Row) (hr : ∀ r ∈ rows, Ow r) (hl : rows.length ≤ 20) (n : Int) : ∀ (d low : Nat) (c : Cl) (s2 s3 s4 s5 : Sl), low + d = rows.length → Gd rows c → Inv (PE0 rows low) (sof c) →
    ∃ (c' : Cl) (s2' s3' s4' s5' : Sl), forD (gV 2) CI ((List.range d).map fun i : Nat => D.int ((low + i : Nat) : Int)) (CE rows (cl c rows.length) s2 s3 s4 s5) n = some (.ok (.nx (CE rows (cl c' rows.length) s2' s3' s4' s5')), n) ∧ Gd rows c' ∧ Inv (PE0 rows rows.length) (sof c')
  | 0, low, c, s2, s3, s4, s5, h, g, I => ⟨c, s2, s3, s4, s5, rfl, g, by have : low = rows.length := by omega
                                                                         rw [← this]; exact I⟩
  | d + 1, low, c, s2, s3, s4, s5, h, g, I => by
    obtain ⟨v, v1, _, _⟩ := inv_at I (fun _ _ _ z => z) hr low (Nat.le_refl _) (by omega)
    obtain ⟨qs, hc⟩ : ∃ qs, c low = some (v, qs) := by
      unfold sof at v1
      cases q : c low with
      | none => rw [q] at v1; cases v1
      | some x =>
        rw [q] at v1
        cases v1
        exact ⟨x.2, rfl⟩
    obtain ⟨es, ef, em⟩ := parts_from_ok rows low hr hl (by omega) n
    obtain ⟨c1, s3', s4', s5', k1, k2, k3⟩ := ci_loop rows hr hl low v qs n es [] c s3 s4 s5 (fun q hq => (em q.1 q.2).mp hq) (fun q hq => by simp at hq) g hc (inv_start I)
    rw [List.nil_append] at k3
    obtain ⟨c', t2, t3, t4, t5, m1, m2, m3⟩ := co_loop rows hr hl n d (low + 1) c1 (.val (.int low)) s3' s4' s5' (by omega) k2 (inv_end k3 em)
    refine ⟨c', t2, t3, t4, t5, ?_, m2, m3⟩
    have ci : CI (CE rows (cl c rows.length) (.val (.int low)) s3 s4 s5) n = some (.ok (.nx (CE rows (cl c1 rows.length) (.val (.int low)) s3' s4' s5')), n) := by
      have it : iOf (eCall (f_parts_from) (eCons (eVar 0) (eCons (eVar 2) eNil))) (CE rows (cl c rows.length) (.val (.int low)) s3 s4 s5) n = some (.ok (es.map eD), n) := by
        have dl : dItems (.lst (es.map eD)) = some (es.map eD) := rfl
        unfold CE
        generalize (es.map eD) = L at *
        generalize encL rows = R at *
        simp [ef, dl]
      unfold CI
      rw [sFor_ap, bind_ap, it, bindR_ok, k1]
    rw [List.range_succ_eq_map, List.map_cons, List.map_map, forD_cons, bind_ap, gV_ap, opt_some, bindR_ok, bind_ap]
    have le : ((List.range d).map ((fun i : Nat => D.int ((low + i : Nat) : Int)) ∘ Nat.succ)) = (List.range d).map fun i : Nat => D.int ((low + 1 + i : Nat) : Int) := List.map_congr_left fun i _ => by
      show D.int ((low + (i + 1) : Nat) : Int) = _
      rw [show low + (i + 1) = low + 1 + i by omega]
    rw [le]
    show bindR (CI (CE rows (cl c rows.length) (.val (.int ((low + 0 : Nat) : Int))) s3 s4 s5) n) _ = _
    rw [Nat.add_zero, ci, bindR_ok, turnK_nx, m1]
end K47
end

section
set_option Elab.async false
set_option linter.all false
set_option autoImplicit false
set_option maxRecDepth 100000
namespace K47
open DL PySem L2 P_k47_whole_charts PyProof.Rows
def c0 : Cl := fun j => if j = 0 then some (0, []) else none
def CP0 : SX := (sExp (eCall (f_check_chart) (eCons (eVar 0) eNil)))
def CPn : EX := (eComp [6] (gV 6) (iOf (eVar 0)) tYesD (eC .non))
def CP1 : SX := (sOwnN 1 (nAdd (eLst (eCons (eTup (eCons (eC (.int 0)) (eCons (eTup eNil) eNil))) eNil)) CPn))
def CP2 : SX := (sFor (gV 2) (iRng1D (eCons (eB dLen (eCons (eVar 0) eNil)) eNil)) CI)
def CPc : EX := (eComp [5, 7] (gT (gsC (gV 5) (gsC (gV 7) gsN))) (iOf (eVar 1)) tYesD (eVar 5))
def CP4 : SX := (sRet (eMake 3 (f_Chart___init__) (eCons (e2 dIx (e2 dIxA (eVar 1) (eB dLen (eCons (eVar 0) eNil))) (eC (.int 1))) (eCons CPc eNil))))
def CPL : SX := (sSeq CP0 (sSeq CP1 (sSeq CP2 (sSeq (sFrz 1) CP4))))
theorem CP_eq : g_cheapest_parts = CPL := rfl
theorem cheap_ok (rows : List Row) (hr : ∀ r ∈ rows, Ow r) (hl : rows.length ≤ 20) (n : Int) :
    ∃ (c : Cl) (b : Nat → Int) (ps : List Part), Gd rows c ∧ Inv (PE0 rows rows.length) (sof c) ∧ (∀ j, j ≤ rows.length → sof c j = some (b j)) ∧ c rows.length = some (b rows.length, ps) ∧ f_cheapest_parts [encL rows] n = some (.ok (chD ps (bl b rows.length)), n) := by
  have g0 : Gd rows c0 := ⟨fun j u ps k => by
    unfold c0 at k
    by_cases z : j = 0
    · rw [if_pos z] at k
      cases k
      subst z
      exact ⟨fun p hp => by simp at hp, by simp, rfl, by simp⟩
    · rw [if_neg z] at k; cases k⟩
  have s0 : sof c0 = fun h => if h = 0 then some 0 else none := by
    funext j
    unfold sof c0
    by_cases z : j = 0
    · rw [if_pos z, if_pos z]; rfl
    · rw [if_neg z, if_neg z]; rfl
  obtain ⟨c, s2, s3, s4, s5, k1, k2, k3⟩ := co_loop rows hr hl n rows.length 0 c0 .no .no .no .no (by omega) g0 (by rw [s0]; exact inv0 rows)
  have tot : ∀ j, j ≤ rows.length → ∃ v, sof c j = some v := fun j hj => by
    obtain ⟨v, h, _⟩ := inv_at k3 (fun _ _ _ z => z) hr j hj hj
    exact ⟨v, h⟩
  obtain ⟨b, hb⟩ : ∃ b : Nat → Int, ∀ j, j ≤ rows.length → sof c j = some (b j) := ⟨fun j => (sof c j).getD 0, fun j hj => by
    obtain ⟨v, h⟩ := tot j hj
    show sof c j = some ((sof c j).getD 0)
    rw [h]; rfl⟩
  have hcj : ∀ j, j ≤ rows.length → ∃ ps, c j = some (b j, ps) := fun j hj => by
    have h1 := hb j hj
    unfold sof at h1
    cases q : c j with
    | none => rw [q] at h1; cases h1
    | some x =>
      rw [q] at h1
      have : x.1 = b j := Option.some.inj h1
      exact ⟨x.2, by rw [← this]⟩
  obtain ⟨ps, hps⟩ := hcj rows.length (Nat.le_refl _)
  refine ⟨c, b, ps, k2, k3, hb, hps, ?_⟩
  have ck := chart_ok rows hr (by omega) n
  have e0 : CP0 [.val (encL rows), .no, .no, .no, .no, .no, .no, .no] n = some (.ok (.nx [.val (encL rows), .no, .no, .no, .no, .no, .no, .no]), n) := by
    generalize encL rows = R at *
    unfold CP0
    simp [ck]
  have e1 : CP1 [.val (encL rows), .no, .no, .no, .no, .no, .no, .no] n = some (.ok (.nx (CE rows (cl c0 rows.length) .no .no .no .no)), n) := by
    have cc := comp_all (PyE.enc : Row → D) (compB [6] (gV 6) tYesD (eC .non) [.val (encL rows), .no, .no, .no, .no, .no, .no, .no]) (fun _ => D.non) n rows fun r _ => by
      generalize (PyE.enc r : D) = Z at *
      simp
    have lc : cl c0 rows.length = [D.tup [.int 0, .tup []]] ++ rows.map fun _ => D.non := by
      unfold cl
      rw [List.range_succ_eq_map, List.map_cons, List.map_map]
      show D.tup [.int 0, .tup []] :: (List.range rows.length).map ((fun j => cell (c0 j)) ∘ Nat.succ) = D.tup [.int 0, .tup []] :: rows.map fun _ => D.non
      congr 1
      apply List.ext_getElem?
      intro i
      rw [List.getElem?_map, List.getElem?_map]
      by_cases h : i < rows.length
      · rw [List.getElem?_range h]
        have : rows[i]? = some rows[i] := by simp [h]
        rw [this]
        rfl
      · rw [List.getElem?_eq_none (by simp; omega), List.getElem?_eq_none (by omega)]; rfl
    have z : (rows.map fun _ => D.non).length ≤ 16777216 := by rw [List.length_map]; omega
    have ct := catL_of (xs := [D.tup [.int 0, .tup []]]) (ys := rows.map fun _ => D.non) (by rw [List.length_map]; simp; omega)
    rw [← lc] at ct
    have ml := mkLst_of z
    have it := it_L rows
    generalize cl c0 rows.length = C0 at *
    generalize (rows.map fun _ => D.non) = N0 at *
    generalize (rows.map (PyE.enc : Row → D)) = A at *
    unfold CE
    generalize encL rows = R at *
    have cn : CPn [.val R, .no, .no, .no, .no, .no, .no, .no] n = some (.ok (.lst N0), n) := by
      unfold CPn
      simp [it, cc, ml]
    unfold CP1
    generalize CPn = CN at *
    simp [cn, ct]
  have e2 : CP2 (CE rows (cl c0 rows.length) .no .no .no .no) n = some (.ok (.nx (CE rows (cl c rows.length) s2 s3 s4 s5)), n) := by
    have rg : iRng1D (eCons (eB dLen (eCons (eVar 0) eNil)) eNil) (CE rows (cl c0 rows.length) .no .no .no .no) n = some (.ok ((List.range rows.length).map fun i : Nat => D.int ((0 + i : Nat) : Int)), n) := by
      have l1 := dLen_L rows
      have r := rng1 rows.length (by omega)
      simp only [Nat.zero_add]
      unfold CE
      generalize ((List.range rows.length).map fun i : Nat => D.int i) = RR at *
      generalize encL rows = R at *
      simp [l1, r]
    unfold CP2
    rw [sFor_ap, bind_ap, rg, bindR_ok, k1]
  have e3 : sFrz 1 (CE rows (cl c rows.length) s2 s3 s4 s5) n = some (.ok (.nx [.val (encL rows), .val (.lst (cl c rows.length)), s2, s3, s4, s5, .no, .no]), n) := by
    have fz : frzE 1 (CE rows (cl c rows.length) s2 s3 s4 s5) = some [.val (encL rows), .val (.lst (cl c rows.length)), s2, s3, s4, s5, .no, .no] := rfl
    rw [sFrz_ap, bind_ap, fz]
    rfl
  have e4 : CP4 [.val (encL rows), .val (.lst (cl c rows.length)), s2, s3, s4, s5, .no, .no] n = some (.ok (.ret (chD ps (bl b rows.length))), n) := by
    have cc := comp_all (fun j : Nat => cell (c j)) (compB [5, 7] (gT (gsC (gV 5) (gsC (gV 7) gsN))) tYesD (eVar 5) [.val (encL rows), .val (.lst (cl c rows.length)), s2, s3, s4, s5, .no, .no]) (fun j => D.int (b j)) n (List.range (rows.length + 1)) fun j hj => by
      obtain ⟨qs, hq⟩ := hcj j (by have := List.mem_range.mp hj; omega)
      rw [hq, compB_ap, show cell (some (b j, qs)) = D.tup [.int (b j), .tup (qs.map pD)] from rfl]
      have hl' : (hide (wipeD [.val (encL rows), .val (.lst (cl c rows.length)), s2, s3, s4, s5, .no, .no] [5, 7])).length = 8 := by rw [hide_length, wipeD_length]; rfl
      generalize hide (wipeD [.val (encL rows), .val (.lst (cl c rows.length)), s2, s3, s4, s5, .no, .no] [5, 7]) = ρ at *
      have g1 : gT (gsC (gV 5) (gsC (gV 7) gsN)) (.tup [.int (b j), .tup (qs.map pD)]) ρ = some ((ρ.set 5 (.val (.int (b j)))).set 7 (.val (.tup (qs.map pD)))) := rfl
      rw [g1]
      have v5 : eVar 5 ((ρ.set 5 (.val (.int (b j)))).set 7 (.val (.tup (qs.map pD)))) n = some (.ok (.int (b j)), n) := evar_get (by rw [List.getElem?_set_ne (by omega), List.getElem?_set_self (by omega)])
      generalize ((ρ.set 5 (.val (.int (b j)))).set 7 (.val (.tup (qs.map pD)))) = ρ1 at *
      simp [v5]
    have lb : (List.range (rows.length + 1)).map (fun j => D.int (b j)) = (bl b rows.length).map D.int := by unfold bl; rw [List.map_map]; rfl
    rw [lb] at cc
    have cc : compD (compB [5, 7] (gT (gsC (gV 5) (gsC (gV 7) gsN))) tYesD (eVar 5) [.val (encL rows), .val (.lst (cl c rows.length)), s2, s3, s4, s5, .no, .no]) (cl c rows.length) n = _ := cc
    have z : ((bl b rows.length).map D.int).length ≤ 16777216 := by unfold bl; rw [List.length_map, List.length_map, List.length_range]; omega
    have ml := mkLst_of z
    have it : dItems (.lst (cl c rows.length)) = some (cl c rows.length) := rfl
    have cp : CPc [.val (encL rows), .val (.lst (cl c rows.length)), s2, s3, s4, s5, .no, .no] n = some (.ok (.lst ((bl b rows.length).map D.int)), n) := by
      unfold CPc
      rw [eComp_ap, bind_ap]
      have i0 : iOf (eVar 1) [.val (encL rows), .val (.lst (cl c rows.length)), s2, s3, s4, s5, .no, .no] n = some (.ok (cl c rows.length), n) := by
        generalize encL rows = R at *
        generalize cl c rows.length = C0 at *
        simp [it]
      rw [i0, bindR_ok, bind_ap, calm_ap, cc, calmR_ok, bindR_ok, ml, opt_some]
    have x1 : dIxA (.lst (cl c rows.length)) (.int (rows.length : Int)) = some (.tup [.int (b rows.length), .tup (ps.map pD)]) := by
      have := ixAL_nat (cl_get c (n := rows.length) (j := rows.length) (Nat.le_refl _))
      rw [hps] at this
      exact this
    have x2 : dIx (.tup [.int (b rows.length), .tup (ps.map pD)]) (.int 1) = some (.tup (ps.map pD)) := rfl
    have i0 := init_ok (.tup (ps.map pD)) ((bl b rows.length).map D.int) n
    have l1 := dLen_L rows
    unfold chD
    generalize (D.lst ((bl b rows.length).map D.int)) = BB at *
    generalize (D.tup (ps.map pD)) = PP at *
    generalize (D.tup [.int (b rows.length), PP]) = Q at *
    generalize cl c rows.length = C0 at *
    generalize encL rows = R at *
    unfold CP4
    generalize CPc = cpc at *
    simp [cp, x1, x2, l1, i0]
  have go : CPL [.val (encL rows), .no, .no, .no, .no, .no, .no, .no] n = some (.ok (.ret (chD ps (bl b rows.length))), n) := seq_go e0 (seq_go e1 (seq_go e2 (seq_go e3 e4)))
  have sh : f_cheapest_parts [encL rows] n = bindR (CPL ([encL rows].map Sl.val ++ List.replicate (8 - 1) Sl.no) n) runK := by
    unfold f_cheapest_parts
    rw [runD_ap, bind_ap, CP_eq]
  have arg : ([encL rows].map Sl.val ++ List.replicate (8 - 1) Sl.no) = [.val (encL rows), .no, .no, .no, .no, .no, .no, .no] := rfl
  rw [sh, arg, go]
  rfl
/-! ### the law's takes, makes -/
theorem ltk_ok (k : Kd) : (dIxA KT (.str k.s)).bind (fun x => dIx x (.int 0)) = some (.int k.t) := by cases k <;> kernel_rfl
theorem lmk_ok (k : Kd) : (dIxA KT (.str k.s)).bind (fun x => dIx x (.int 1)) = some (.int k.m) := by cases k <;> kernel_rfl
theorem ltakes_ok (w : Word) (hl : w.length ≤ 1000) (n : Int) : f__law_takes [encT w, KT] n = some (.ok (.int (K47.T w)), n) := by
  have c := comp_all (PyE.enc : Cell → D) (compB [2, 3] (gT (gsC (gV 2) (gsC (gV 3) gsN))) tYesD (e2 dIx (e2 dIxA (eVar 1) (eVar 2)) (eC (.int 0))) [.val (encT w), .val KT, .no, .no]) (fun c => .int (c.k.t : Nat)) n w fun x _ => by
    have h := ltk_ok x.k
    have e : (PyE.enc x : D) = .tup [.str x.k.s, .str x.y.s] := rfl
    rw [e]
    generalize KT = KK at *
    cases hk : dIxA KK (.str x.k.s) with
    | none => rw [hk] at h; cases h
    | some d =>
      rw [hk, Option.bind_some] at h
      simp [hk, h]
  have a := sum_nat (w.map fun c => c.k.t)
  rw [List.map_map] at a
  have z := z_small w (fun c : Cell => D.int (c.k.t : Nat)) (by omega)
  have it : dItems (encT w) = some (w.map PyE.enc) := rfl
  have a : dSum [.lst (w.map fun c : Cell => D.int (c.k.t : Nat))] = some (.int (K47.T w)) := a
  generalize (w.map fun c : Cell => D.int (c.k.t : Nat)) = B at *
  generalize (w.map (PyE.enc : Cell → D)) = A at *
  generalize encT w = Z at *
  generalize KT = KK at *
  simp only [f__law_takes, g__law_takes]
  simp [it, c, mkLst_of z, a]
theorem lmakes_ok (w : Word) (hl : w.length ≤ 1000) (n : Int) : f__law_makes [encT w, KT] n = some (.ok (.int (K47.M w)), n) := by
  have c := comp_all (PyE.enc : Cell → D) (compB [2, 3] (gT (gsC (gV 2) (gsC (gV 3) gsN))) tYesD (e2 dIx (e2 dIxA (eVar 1) (eVar 2)) (eC (.int 1))) [.val (encT w), .val KT, .no, .no]) (fun c => .int (c.k.m : Nat)) n w fun x _ => by
    have h := lmk_ok x.k
    have e : (PyE.enc x : D) = .tup [.str x.k.s, .str x.y.s] := rfl
    rw [e]
    generalize KT = KK at *
    cases hk : dIxA KK (.str x.k.s) with
    | none => rw [hk] at h; cases h
    | some d =>
      rw [hk, Option.bind_some] at h
      simp [hk, h]
  have a := sum_nat (w.map fun c => c.k.m)
  rw [List.map_map] at a
  have z := z_small w (fun c : Cell => D.int (c.k.m : Nat)) (by omega)
  have it : dItems (encT w) = some (w.map PyE.enc) := rfl
  have a : dSum [.lst (w.map fun c : Cell => D.int (c.k.m : Nat))] = some (.int (K47.M w)) := a
  generalize (w.map fun c : Cell => D.int (c.k.m : Nat)) = B at *
  generalize (w.map (PyE.enc : Cell → D)) = A at *
  generalize encT w = Z at *
  generalize KT = KK at *
  simp only [f__law_makes, g__law_makes]
  simp [it, c, mkLst_of z, a]
end K47
end

section
set_option Elab.async false
set_option linter.all false
set_option autoImplicit false
set_option maxRecDepth 100000
namespace K47
open DL PySem L2 P_k47_whole_charts PyProof.Rows
/-! ### the law's blocks -/
def bD (rows : List Row) (low : Nat) (q : Nat × Nat) : D := .tup [encL (inn rows low q.1), .int q.2]
def beB (rows : List Row) (low m t : Nat) : Bool := (inn rows low m).all evR && (decide (absI ((inn rows low m).map chg).sum ≤ 12) && decide (pw (inn rows low m) t = inn rows low (m * t)))
theorem beB_iff {rows : List Row} {low m t : Nat} (h1 : 1 ≤ m) (h2 : 2 ≤ t) (h3 : low + m ≤ rows.length) : beB rows low m t = true ↔ BE rows low m t := by
  unfold beB
  simp only [Bool.and_eq_true, decide_eq_true_eq]
  constructor
  · rintro ⟨a, b, c⟩
    obtain ⟨b1, b2⟩ := absI_le.mp b
    refine ⟨h1, h2, ?_, a, b1, b2, c⟩
    have := congrArg List.length c
    rw [pw_length, inn_len h3] at this
    unfold inn at this
    rw [List.length_take, List.length_drop, Nat.mul_comm t m] at this
    have : 1 * 2 ≤ m * t := Nat.mul_le_mul h1 h2
    omega
  · rintro ⟨_, _, _, a, b, c, d⟩
    exact ⟨a, absI_le.mpr ⟨b, c⟩, d⟩
def LB1 : SX := (sAsg (gV 5) (eCut (eVar 0) (oSome (eVar 1)) (oSome (e2 dAdd (eVar 1) (eVar 4)))))
def LB2e : EX := (eB dAll (eCons (eComp [9] (gV 9) (iOf (eVar 5)) tYesD (e2 dEq (eCall (f__law_takes) (eCons (e2 dIx (eVar 9) (eC (.int 1))) (eCons (eVar 2) eNil))) (eCall (f__law_makes) (eCons (e2 dIx (eVar 9) (eC (.int 1))) (eCons (eVar 2) eNil))))) eNil))
def LB3x : EX := (e2 dSub (eCall (f__law_makes) (eCons (e2 dAdd (e2 dIx (eVar 9) (eC (.int 0))) (e2 dIx (eVar 9) (eC (.int 2)))) (eCons (eVar 2) eNil))) (eCall (f__law_takes) (eCons (e2 dAdd (e2 dIx (eVar 9) (eC (.int 0))) (e2 dIx (eVar 9) (eC (.int 2)))) (eCons (eVar 2) eNil))))
def LB3e : EX := (eB dSum (eCons (eComp [9] (gV 9) (iOf (eVar 5)) tYesD LB3x) eNil))
def LB4t : TX := (tAndD (tTru (eVar 6)) (tAndD (tB (e2 dLeA (eB dAbs (eCons (eVar 7) eNil)) (eC (.int 12)))) (tB (e2 dEq (e2 dMulL (eVar 5) (eVar 8)) (eCut (eVar 0) (oSome (eVar 1)) (oSome (e2 dAdd (eVar 1) (e2 dMul (eVar 4) (eVar 8)))))))))
def LB4b : SX := (sIf LB4t (sApp 3 (eTup (eCons (eVar 5) (eCons (eVar 8) eNil)))) sNx)
def LB4 : SX := (sFor (gV 8) (iRng2D (eCons (eC (.int 2)) (eCons (e2 dAdd (eB dLen (eCons (eVar 0) eNil)) (eC (.int 1))) eNil))) LB4b)
def LBb : SX := (sSeq LB1 (sSeq (sAsg (gV 6) LB2e) (sSeq (sAsg (gV 7) LB3e) LB4)))
def LBf : SX := (sFor (gV 4) (iRng2D (eCons (eC (.int 1)) (eCons (e2 dAdd (e2 dSub (eB dLen (eCons (eVar 0) eNil)) (eVar 1)) (eC (.int 1))) eNil))) LBb)
def LBL : SX := (sSeq (sOwn 3 (.lst [])) (sSeq LBf (sSeq (sFrz 3) (sRet (eVar 3)))))
theorem LB_eq : g__law_blocks = LBL := rfl
def LE (rows : List Row) (low : Nat) (acc : List D) (s4 s5 s6 s7 s8 : Sl) : DL.Env := [.val (encL rows), .val (.int low), .val KT, .own (.lst acc), s4, s5, s6, s7, s8, .no]
/-- a sum over rows of an expression -/
theorem sum_runE {α : Type} (h : α → D) (v : Nat) (e0 : EX) (F : α → Int) (it : IX) (ρ : DL.Env) (rs : List α) (hl : rs.length ≤ 1000) (n : Int) (hf : ∀ r ∈ rs, e0 ((hide (wipeD ρ [v])).set v (.val (h r))) n = some (.ok (.int (F r)), n)) (hi : it ρ n = some (.ok (rs.map h), n)) :
    eB dSum (eCons (eComp [v] (gV v) it tYesD e0) eNil) ρ n = some (.ok (.int (rs.map F).sum), n) := by
  have c := comp_all h (compB [v] (gV v) tYesD e0 ρ) (fun r => D.int (F r)) n rs fun r hr => by
    have e := hf r hr
    rw [compB_ap, gV_ap, bind_ap, opt_some, bindR_ok]
    generalize (hide (wipeD ρ [v])).set v (.val (h r)) = ρ1 at *
    simp [e]
  have z : (rs.map fun r => D.int (F r)).length ≤ 16777216 := by rw [List.length_map]; omega
  have ml := mkLst_of z
  have s := sum_map F rs
  generalize (rs.map fun r => D.int (F r)) = B at *
  generalize (rs.map h) = A at *
  generalize (rs.map F).sum = S at *
  have : eComp [v] (gV v) it tYesD e0 ρ n = some (.ok (.lst B), n) := by
    rw [eComp_ap, bind_ap, hi, bindR_ok, bind_ap, calm_ap, c, calmR_ok, bindR_ok, ml, opt_some]
  generalize eComp [v] (gV v) it tYesD e0 = CC at *
  simp [this, s]
theorem hide_get {ρ : DL.Env} {i : Nat} {d : D} (h : ρ[i]? = some (.val d)) : (hide ρ)[i]? = some (.val d) := by
  induction ρ generalizing i with
  | nil => simp at h
  | cons s r ih =>
    cases i with
    | zero =>
      rw [List.getElem?_cons_zero] at h
      cases h
      rfl
    | succ i =>
      rw [List.getElem?_cons_succ] at h
      cases s <;> (simp only [hide_no, hide_val, hide_own, List.getElem?_cons_succ]; exact ih h)
theorem evar_ho {v i : Nat} {ρ : DL.Env} {d x : D} {n : Int} (hne : i ≠ v) (h : ρ[i]? = some (.val d)) : eVar i ((hide (wipeD ρ [v])).set v (.val x)) n = some (.ok d, n) :=
  evar_get (by
    rw [List.getElem?_set_ne (Ne.symm hne)]
    refine hide_get ?_
    rw [wipeD_cons, wipeD_nil, List.getElem?_set_ne (Ne.symm hne)]
    exact h)
theorem lev_ok {r : Row} (h : Ow r) (ρ1 : DL.Env) (n : Int) (v9 : eVar 9 ρ1 n = some (.ok (PyE.enc r), n)) (v2 : eVar 2 ρ1 n = some (.ok KT, n)) : (e2 dEq (eCall (f__law_takes) (eCons (e2 dIx (eVar 9) (eC (.int 1))) (eCons (eVar 2) eNil))) (eCall (f__law_makes) (eCons (e2 dIx (eVar 9) (eC (.int 1))) (eCons (eVar 2) eNil)))) ρ1 n = some (.ok (.bl (evR r)), n) := by
  obtain ⟨b, g, a, rfl, hb⟩ := h
  obtain ⟨h1, h2, h3⟩ := rowB_len hb
  have t := ltakes_ok g (by omega) n
  have m := lmakes_ok g (by omega) n
  have ev : evR (rw3 b g a) = decide (K47.T g = K47.M g) := rfl
  rw [ev]
  have e : (PyE.enc (rw3 b g a) : D) = .tup [encT b, encT g, encT a] := rfl
  rw [e] at v9
  generalize encT b = B at *
  generalize encT g = G at *
  generalize encT a = A at *
  have x1 : dIx (.tup [B, G, A]) (.int 1) = some G := rfl
  have : decide ((K47.T g : Int) = K47.M g) = decide (K47.T g = K47.M g) := decide_eq_decide.mpr (by omega)
  rw [← this]
  generalize KT = KK at *
  simp [v9, v2, x1, t, m]
theorem lch_ok {r : Row} (h : Ow r) (ρ1 : DL.Env) (n : Int) (v9 : eVar 9 ρ1 n = some (.ok (PyE.enc r), n)) (v2 : eVar 2 ρ1 n = some (.ok KT, n)) : LB3x ρ1 n = some (.ok (.int (chg r)), n) := by
  obtain ⟨b, g, a, rfl, hb⟩ := h
  obtain ⟨h1, h2, h3⟩ := rowB_len hb
  have t := ltakes_ok (b ++ a) (by rw [List.length_append]; omega) n
  have m := lmakes_ok (b ++ a) (by rw [List.length_append]; omega) n
  have ad := dAdd_T (xs := b) (ys := a) (by omega)
  have ev : chg (rw3 b g a) = ((K47.M (b ++ a) : Nat) : Int) - (K47.T (b ++ a) : Nat) := by
    show (K47.M b : Int) + K47.M a - K47.T b - K47.T a = _
    rw [M_app, T_app]; omega
  rw [ev]
  have e : (PyE.enc (rw3 b g a) : D) = .tup [encT b, encT g, encT a] := rfl
  rw [e] at v9
  generalize encT (b ++ a) = BA at *
  generalize encT b = B at *
  generalize encT g = G at *
  generalize encT a = A at *
  have x0 : dIx (.tup [B, G, A]) (.int 0) = some B := rfl
  have x2 : dIx (.tup [B, G, A]) (.int 2) = some A := rfl
  generalize KT = KK at *
  unfold LB3x
  simp [v9, v2, x0, x2, ad, t, m]
theorem lb4_run (rows : List Row) (low m t : Nat) (hm : m ≤ 1000) (ht : t ≤ 1000) (h3 : low + m ≤ rows.length) (hl : rows.length ≤ 20) (acc : List D) (ha : acc.length < 16777216) (n : Int) :
    LB4b (LE rows low acc (.val (.int m)) (.val (encL (inn rows low m))) (.val (.bl ((inn rows low m).all evR))) (.val (.int ((inn rows low m).map chg).sum)) (.val (.int t))) n =
      some (.ok (.nx (LE rows low (acc ++ (if beB rows low m t then [bD rows low (m, t)] else [])) (.val (.int m)) (.val (encL (inn rows low m))) (.val (.bl ((inn rows low m).all evR))) (.val (.int ((inn rows low m).map chg).sum)) (.val (.int t)))), n) := by
  have li := inn_len h3
  have ml := dMulL_L (xs := inn rows low m) (k := t) ht (by omega)
  have ct := cut_inn rows low (m * t)
  have eq := dEq_L (pw (inn rows low m) t) (inn rows low (m * t))
  have mm := mul_r (m : Int) (t : Int) (by omega) (by omega)
  have mc : ((m * t : Nat) : Int) = (m : Int) * t := Int.natCast_mul m t
  rw [mc] at ct
  have ab : dAbs [.int ((inn rows low m).map chg).sum] = some (.int (absI ((inn rows low m).map chg).sum)) := rfl
  have le : dLeA (.int (absI ((inn rows low m).map chg).sum)) (.int 12) = some (.bl (decide (absI ((inn rows low m).map chg).sum ≤ 12))) := rfl
  have up := uApp_ok (bD rows low (m, t)) acc ha
  have ev : LB4t (LE rows low acc (.val (.int m)) (.val (encL (inn rows low m))) (.val (.bl ((inn rows low m).all evR))) (.val (.int ((inn rows low m).map chg).sum)) (.val (.int t))) n = some (.ok (beB rows low m t), n) := by
    unfold beB
    unfold LE
    generalize decide (pw (inn rows low m) t = inn rows low (m * t)) = c3 at *
    generalize decide (absI ((inn rows low m).map chg).sum ≤ 12) = c2 at *
    generalize (inn rows low m).all evR = c1 at *
    generalize absI ((inn rows low m).map chg).sum = AA at *
    generalize ((inn rows low m).map chg).sum = SS at *
    generalize encL (pw (inn rows low m) t) = X1 at *
    generalize encL (inn rows low (m * t)) = X2 at *
    generalize encL (inn rows low m) = X3 at *
    generalize encL rows = R at *
    generalize KT = KK at *
    generalize (m : Int) * (t : Int) = MT at *
    unfold LB4t
    cases c1 <;> cases c2 <;> simp [ml, ct, eq, mm, ab, le]
  unfold LB4b
  rw [sIf_ap, bind_ap, ev, bindR_ok]
  cases hb : beB rows low m t with
  | true =>
    rw [selB_true]
    have be : bD rows low (m, t) = .tup [encL (inn rows low m), .int t] := rfl
    rw [if_pos rfl]
    rw [be] at up ⊢
    unfold LE
    generalize ((inn rows low m).map chg).sum = SS at *
    generalize (inn rows low m).all evR = c1 at *
    generalize encL (inn rows low m) = X3 at *
    generalize encL rows = R at *
    generalize KT = KK at *
    simp [up]
  | false =>
    rw [selB_false, sNx_ap, if_neg Bool.false_ne_true, List.append_nil]
theorem lb4_loop (rows : List Row) (low m : Nat) (hm : m ≤ 1000) (h3 : low + m ≤ rows.length) (hl : rows.length ≤ 20) (n : Int) : ∀ (ts : List Nat) (acc : List D) (s8 : Sl), (∀ t ∈ ts, t ≤ 1000) → acc.length + ts.length < 16777216 →
    ∃ s8', forD (gV 8) LB4b (ts.map fun t : Nat => D.int t) (LE rows low acc (.val (.int m)) (.val (encL (inn rows low m))) (.val (.bl ((inn rows low m).all evR))) (.val (.int ((inn rows low m).map chg).sum)) s8) n =
      some (.ok (.nx (LE rows low (acc ++ ((ts.filter (beB rows low m)).map fun t => bD rows low (m, t))) (.val (.int m)) (.val (encL (inn rows low m))) (.val (.bl ((inn rows low m).all evR))) (.val (.int ((inn rows low m).map chg).sum)) s8')), n)
  | [], acc, s8, _, _ => ⟨s8, by simp⟩
  | t :: ts, acc, s8, h, ha => by
    rw [List.length_cons] at ha
    have b := lb4_run rows low m t hm (h t List.mem_cons_self) h3 hl acc (by omega) n
    obtain ⟨s8', e⟩ := lb4_loop rows low m hm h3 hl n ts (acc ++ (if beB rows low m t then [bD rows low (m, t)] else [])) (.val (.int t)) (fun x hx => h x (List.mem_cons_of_mem _ hx)) (by rw [List.length_append]; split <;> simp <;> omega)
    refine ⟨s8', ?_⟩
    rw [List.map_cons, forD_cons, bind_ap, gV_ap, opt_some, bindR_ok, bind_ap]
    show bindR (LB4b (LE rows low acc (.val (.int m)) (.val (encL (inn rows low m))) (.val (.bl ((inn rows low m).all evR))) (.val (.int ((inn rows low m).map chg).sum)) (.val (.int t))) n) _ = _
    rw [b, bindR_ok, turnK_nx, e, List.filter_cons, List.append_assoc]
    congr 6
    cases beB rows low m t <;> rfl
theorem lbb_run (rows : List Row) (low m : Nat) (h1 : 1 ≤ m) (h3 : low + m ≤ rows.length) (hr : ∀ r ∈ rows, Ow r) (hl : rows.length ≤ 20) (acc : List D) (ha : acc.length + 100 < 16777216) (s5 s6 s7 s8 : Sl) (n : Int) :
    ∃ s5' s6' s7' s8', LBb (LE rows low acc (.val (.int m)) s5 s6 s7 s8) n = some (.ok (.nx (LE rows low (acc ++ (((List.range (rows.length - 1)).map (2 + ·)).filter (beB rows low m)).map fun t => bD rows low (m, t)) (.val (.int m)) s5' s6' s7' s8')), n) := by
  have li := inn_len h3
  have f1 : LB1 (LE rows low acc (.val (.int m)) s5 s6 s7 s8) n = some (.ok (.nx (LE rows low acc (.val (.int m)) (.val (encL (inn rows low m))) s6 s7 s8)), n) := by
    have c := cut_inn rows low m
    unfold LE
    generalize encL (inn rows low m) = X at *
    generalize encL rows = R at *
    generalize KT = KK at *
    unfold LB1
    simp [c]
  have it : ∀ s6 s7, iOf (eVar 5) (LE rows low acc (.val (.int m)) (.val (encL (inn rows low m))) s6 s7 s8) n = some (.ok ((inn rows low m).map PyE.enc), n) := fun s6 s7 => by
    have i := it_L (inn rows low m)
    unfold LE
    generalize encL (inn rows low m) = X at *
    generalize KT = KK at *
    simp [i]
  have A := all_runG (PyE.enc : Row → D) 9 (e2 dEq (eCall (f__law_takes) (eCons (e2 dIx (eVar 9) (eC (.int 1))) (eCons (eVar 2) eNil))) (eCall (f__law_makes) (eCons (e2 dIx (eVar 9) (eC (.int 1))) (eCons (eVar 2) eNil)))) evR (iOf (eVar 5)) (LE rows low acc (.val (.int m)) (.val (encL (inn rows low m))) s6 s7 s8) (inn rows low m) (by omega) n (fun r hr' => lev_ok (hr r (mem_inn hr')) _ n (evar_hs (by show 9 < 10; omega)) (evar_ho (by omega) rfl)) (it s6 s7)
  replace A : LB2e (LE rows low acc (.val (.int m)) (.val (encL (inn rows low m))) s6 s7 s8) n = some (.ok (.bl ((inn rows low m).all evR)), n) := A
  have f2 : (sAsg (gV 6) LB2e) (LE rows low acc (.val (.int m)) (.val (encL (inn rows low m))) s6 s7 s8) n = some (.ok (.nx (LE rows low acc (.val (.int m)) (.val (encL (inn rows low m))) (.val (.bl ((inn rows low m).all evR))) s7 s8)), n) := by
    rw [sAsg_ap, bind_ap, A, bindR_ok, bind_ap, gV_ap, opt_some, bindR_ok, pure_ap]
    rfl
  have S := sum_runE (PyE.enc : Row → D) 9 LB3x chg (iOf (eVar 5)) (LE rows low acc (.val (.int m)) (.val (encL (inn rows low m))) (.val (.bl ((inn rows low m).all evR))) s7 s8) (inn rows low m) (by omega) n (fun r hr' => lch_ok (hr r (mem_inn hr')) _ n (evar_hs (by show 9 < 10; omega)) (evar_ho (by omega) rfl)) (it _ s7)
  replace S : LB3e (LE rows low acc (.val (.int m)) (.val (encL (inn rows low m))) (.val (.bl ((inn rows low m).all evR))) s7 s8) n = some (.ok (.int ((inn rows low m).map chg).sum), n) := S
  have f3 : (sAsg (gV 7) LB3e) (LE rows low acc (.val (.int m)) (.val (encL (inn rows low m))) (.val (.bl ((inn rows low m).all evR))) s7 s8) n = some (.ok (.nx (LE rows low acc (.val (.int m)) (.val (encL (inn rows low m))) (.val (.bl ((inn rows low m).all evR))) (.val (.int ((inn rows low m).map chg).sum)) s8)), n) := by
    rw [sAsg_ap, bind_ap, S, bindR_ok, bind_ap, gV_ap, opt_some, bindR_ok, pure_ap]
    rfl
  obtain ⟨s8', f4⟩ := lb4_loop rows low m (by omega) h3 hl n ((List.range (rows.length - 1)).map (2 + ·)) acc s8 (fun t ht => by
    obtain ⟨i, hi, rfl⟩ := List.mem_map.mp ht
    rw [List.mem_range] at hi
    omega) (by rw [List.length_map, List.length_range]; omega)
  have rg : iRng2D (eCons (eC (.int 2)) (eCons (e2 dAdd (eB dLen (eCons (eVar 0) eNil)) (eC (.int 1))) eNil)) (LE rows low acc (.val (.int m)) (.val (encL (inn rows low m))) (.val (.bl ((inn rows low m).all evR))) (.val (.int ((inn rows low m).map chg).sum)) s8) n = some (.ok (((List.range (rows.length - 1)).map (2 + ·)).map fun t : Nat => D.int t), n) := by
    have r := rng2 2 (rows.length + 1) (by omega) (by omega)
    have l1 := dLen_L rows
    have c : ((rows.length + 1 : Nat) : Int) = (rows.length : Int) + 1 := by omega
    have two : ((2 : Nat) : Int) = 2 := rfl
    rw [c, two, show rows.length + 1 - 2 = rows.length - 1 by omega] at r
    have mp : ((List.range (rows.length - 1)).map (2 + ·)).map (fun t : Nat => D.int t) = (List.range (rows.length - 1)).map fun i : Nat => D.int ((2 + i : Nat) : Int) := by rw [List.map_map]; rfl
    rw [mp]
    unfold LE
    generalize ((List.range (rows.length - 1)).map fun i : Nat => D.int ((2 + i : Nat) : Int)) = RR at *
    generalize encL rows = R at *
    generalize KT = KK at *
    simp [l1, r]
  refine ⟨.val (encL (inn rows low m)), .val (.bl ((inn rows low m).all evR)), .val (.int ((inn rows low m).map chg).sum), s8', seq_go f1 (seq_go f2 (seq_go f3 ?_))⟩
  unfold LB4
  rw [sFor_ap, bind_ap, rg, bindR_ok]
  exact f4
theorem lbf_loop (rows : List Row) (low : Nat) (hr : ∀ r ∈ rows, Ow r) (hl : rows.length ≤ 20) (n : Int) : ∀ (d k : Nat) (acc : List D) (s4 s5 s6 s7 s8 : Sl), 1 ≤ k → low + k + d = rows.length + 1 → acc.length + d * 20 + 100 < 16777216 →
    ∃ (es : List (Nat × Nat)) (s4' s5' s6' s7' s8' : Sl), forD (gV 4) LBb ((List.range d).map fun i : Nat => D.int ((k + i : Nat) : Int)) (LE rows low acc s4 s5 s6 s7 s8) n = some (.ok (.nx (LE rows low (acc ++ es.map (bD rows low)) s4' s5' s6' s7' s8')), n) ∧
      ∀ q, q ∈ es ↔ (k ≤ q.1 ∧ BE rows low q.1 q.2)
  | 0, k, acc, s4, s5, s6, s7, s8, h1, h2, _ => ⟨[], s4, s5, s6, s7, s8, by simp, fun q => ⟨fun z => by simp at z, fun ⟨a, b⟩ => by
      have := b.fit
      have := b.t2
      have : q.1 * 1 ≤ q.1 * q.2 := Nat.mul_le_mul (Nat.le_refl _) (by omega)
      omega⟩⟩
  | d + 1, k, acc, s4, s5, s6, s7, s8, h1, h2, h3 => by
    obtain ⟨t5, t6, t7, t8, e⟩ := lbb_run rows low k h1 (by omega) hr hl acc (by omega) s5 s6 s7 s8 n
    have fl : ((((List.range (rows.length - 1)).map (2 + ·)).filter (beB rows low k)).map fun t => bD rows low (k, t)).length ≤ 20 := by
      rw [List.length_map]
      refine Nat.le_trans (List.length_filter_le _ _) ?_
      rw [List.length_map, List.length_range]; omega
    obtain ⟨es, u4, u5, u6, u7, u8, f, fm⟩ := lbf_loop rows low hr hl n d (k + 1) (acc ++ (((List.range (rows.length - 1)).map (2 + ·)).filter (beB rows low k)).map fun t => bD rows low (k, t)) (.val (.int k)) t5 t6 t7 t8 (by omega) (by omega) (by rw [List.length_append]; omega)
    refine ⟨((((List.range (rows.length - 1)).map (2 + ·)).filter (beB rows low k)).map fun t => (k, t)) ++ es, u4, u5, u6, u7, u8, ?_, fun q => ?_⟩
    · rw [List.range_succ_eq_map, List.map_cons, List.map_map, forD_cons, bind_ap, gV_ap, opt_some, bindR_ok, bind_ap]
      have le : ((List.range d).map ((fun i : Nat => D.int ((k + i : Nat) : Int)) ∘ Nat.succ)) = (List.range d).map fun i : Nat => D.int ((k + 1 + i : Nat) : Int) := List.map_congr_left fun i _ => by
        show D.int ((k + (i + 1) : Nat) : Int) = _
        rw [show k + (i + 1) = k + 1 + i by omega]
      rw [le]
      show bindR (LBb (LE rows low acc (.val (.int ((k + 0 : Nat) : Int))) s5 s6 s7 s8) n) _ = _
      rw [Nat.add_zero, e, bindR_ok, turnK_nx, f, List.map_append, List.map_map, List.append_assoc]
      rfl
    · rw [List.mem_append, fm q]
      constructor
      · rintro (a | ⟨a, b⟩)
        · obtain ⟨t, ht, rfl⟩ := List.mem_map.mp a
          obtain ⟨t1, t2⟩ := List.mem_filter.mp ht
          obtain ⟨i, hi, rfl⟩ := List.mem_map.mp t1
          exact ⟨Nat.le_refl _, (beB_iff h1 (by omega) (by omega)).mp t2⟩
        · exact ⟨by omega, b⟩
      · rintro ⟨a, b⟩
        by_cases z : q.1 = k
        · left
          obtain ⟨q1, q2⟩ := q
          simp only at z b
          subst z
          have f1 := b.fit
          have f2 := b.t2
          have : 1 * q2 ≤ q1 * q2 := Nat.mul_le_mul h1 (Nat.le_refl _)
          refine List.mem_map.mpr ⟨q2, List.mem_filter.mpr ⟨List.mem_map.mpr ⟨q2 - 2, List.mem_range.mpr (by omega), ?_⟩, (beB_iff h1 b.t2 (by omega)).mpr b⟩, rfl⟩
          show 2 + (q2 - 2) = q2
          omega
        · exact .inr ⟨by omega, b⟩
theorem blocks_ok (rows : List Row) (low : Nat) (hr : ∀ r ∈ rows, Ow r) (hl : rows.length ≤ 20) (h : low < rows.length) (n : Int) :
    ∃ es : List (Nat × Nat), f__law_blocks [encL rows, .int low, KT] n = some (.ok (.lst (es.map (bD rows low))), n) ∧ ∀ q, q ∈ es ↔ BE rows low q.1 q.2 := by
  obtain ⟨es, s4, s5, s6, s7, s8, e, em⟩ := lbf_loop rows low hr hl n (rows.length - low) 1 [] .no .no .no .no .no (Nat.le_refl _) (by omega) (by simp; omega)
  rw [List.nil_append] at e
  refine ⟨es, ?_, fun q => by rw [em q]; exact ⟨fun a => a.2, fun a => ⟨a.m1, a⟩⟩⟩
  have rg : iRng2D (eCons (eC (.int 1)) (eCons (e2 dAdd (e2 dSub (eB dLen (eCons (eVar 0) eNil)) (eVar 1)) (eC (.int 1))) eNil)) (LE rows low [] .no .no .no .no .no) n = some (.ok ((List.range (rows.length - low)).map fun i : Nat => D.int ((1 + i : Nat) : Int)), n) := by
    have r := rng2 1 (rows.length - low + 1) (by omega) (by omega)
    have l1 := dLen_L rows
    have c : ((rows.length - low + 1 : Nat) : Int) = (rows.length : Int) - low + 1 := by omega
    have one : ((1 : Nat) : Int) = 1 := rfl
    rw [c, one, Nat.add_sub_cancel] at r
    unfold LE
    generalize ((List.range (rows.length - low)).map fun i : Nat => D.int ((1 + i : Nat) : Int)) = RR at *
    generalize encL rows = R at *
    generalize KT = KK at *
    simp [l1, r]
  have e1 : LBf (LE rows low [] .no .no .no .no .no) n = some (.ok (.nx (LE rows low (es.map (bD rows low)) s4 s5 s6 s7 s8)), n) := by
    unfold LBf
    rw [sFor_ap, bind_ap, rg, bindR_ok, e]
  have fz : frzE 3 (LE rows low (es.map (bD rows low)) s4 s5 s6 s7 s8) = some [.val (encL rows), .val (.int low), .val KT, .val (.lst (es.map (bD rows low))), s4, s5, s6, s7, s8, .no] := rfl
  have e2 : sFrz 3 (LE rows low (es.map (bD rows low)) s4 s5 s6 s7 s8) n = some (.ok (.nx [.val (encL rows), .val (.int low), .val KT, .val (.lst (es.map (bD rows low))), s4, s5, s6, s7, s8, .no]), n) := by
    rw [sFrz_ap, bind_ap, fz]; rfl
  have go : LBL [.val (encL rows), .val (.int low), .val KT, .no, .no, .no, .no, .no, .no, .no] n = some (.ok (.ret (.lst (es.map (bD rows low)))), n) := seq_go (ρ1 := LE rows low [] .no .no .no .no .no) rfl (seq_go e1 (seq_go e2 rfl))
  have sh : f__law_blocks [encL rows, .int low, KT] n = bindR (LBL ([encL rows, .int low, KT].map Sl.val ++ List.replicate (10 - 3) Sl.no) n) runK := by
    unfold f__law_blocks
    rw [runD_ap, bind_ap, LB_eq]
  have arg : ([encL rows, .int low, KT].map Sl.val ++ List.replicate (10 - 3) Sl.no) = [.val (encL rows), .val (.int low), .val KT, .no, .no, .no, .no, .no, .no, .no] := rfl
  rw [sh, arg, go]
  rfl
end K47
end

section
set_option Elab.async false
set_option linter.all false
set_option autoImplicit false
set_option maxRecDepth 100000
namespace K47
open DL PySem L2 P_k47_whole_charts PyProof.Rows
/-! ### the law's best -/
def lw (s : Nat → Option Int) (n : Nat) : List D := (List.range (n + 1)).map fun j => D.int ((s j).getD 1000000000)
theorem lw_get (s : Nat → Option Int) {n j : Nat} (h : j ≤ n) : (lw s n)[j]? = some (.int ((s j).getD 1000000000)) := by
  unfold lw
  rw [List.getElem?_map, List.getElem?_range (by omega)]
  rfl
def mn (i j : Int) : Int := if j < i then j else i
theorem lw_put (s : Nat → Option Int) (n h : Nat) (x : Int) (hx : x < 1000000000) : (lw s n).set h (.int (mn ((s h).getD 1000000000) x)) = lw (relax s h x) n := by
  unfold lw
  rw [set_range]
  refine List.map_congr_left fun j _ => ?_
  unfold relax
  by_cases z : j = h
  · rw [if_pos z, if_pos z]
    cases q : s h with
    | none =>
      show D.int (mn 1000000000 x) = D.int x
      unfold mn
      rw [if_pos hx]
    | some u => rfl
  · rw [if_neg z, if_neg z]
def BP1 : SX := (sPutL 2 (e2 dAdd (eVar 3) (eC (.int 1))) (eB dMin2 (eCons (eOwnIx 2 (e2 dAdd (eVar 3) (eC (.int 1)))) (eCons (e2 dAdd (e2 dAdd (eOwnIx 2 (eVar 3)) (eC (.int 1))) (eCall (f__law_cost) (eCons (e2 dIxA (eVar 0) (eVar 3)) eNil))) eNil))))
def BS : EX := (eB dSum (eCons (eComp [7] (gV 7) (iOf (eVar 4)) tYesD (eCall (f__law_cost) (eCons (eVar 7) eNil))) eNil))
def BI1 : SX := (sAsg (gV 6) (e2 dAdd (eVar 3) (e2 dMul (eB dLen (eCons (eVar 4) eNil)) (eVar 5))))
def BI2 : SX := (sPutL 2 (eVar 6) (eB dMin2 (eCons (eOwnIx 2 (eVar 6)) (eCons (e2 dAdd (e2 dAdd (eOwnIx 2 (eVar 3)) (eC (.int 2))) BS) eNil))))
def BI : SX := (sSeq BI1 BI2)
def BF : SX := (sFor (gT (gsC (gV 4) (gsC (gV 5) gsN))) (iOf (eCall (f__law_blocks) (eCons (eVar 0) (eCons (eVar 3) (eCons (eVar 1) eNil))))) BI)
def BO : SX := (sSeq BP1 BF)
def B0 : SX := (sOwnN 2 (nAdd (eLst (eCons (eC (.int 0)) eNil)) (e2 dMulL (eLst (eCons (e2 dPow (eC (.int 10)) (eC (.int 9))) eNil)) (eB dLen (eCons (eVar 0) eNil)))))
def BFo : SX := (sFor (gV 3) (iRng1D (eCons (eB dLen (eCons (eVar 0) eNil)) eNil)) BO)
def BL : SX := (sSeq B0 (sSeq BFo (sSeq (sFrz 2) (sRet (eVar 2)))))
theorem BL_eq : g__law_best = BL := rfl
def LS (rows : List Row) (s : Nat → Option Int) (s3 s4 s5 s6 : Sl) : DL.Env := [.val (encL rows), .val KT, .own (.lst (lw s rows.length)), s3, s4, s5, s6, .no]
theorem min2 (i j : Int) : dMin2 [.int i, .int j] = some (.int (mn i j)) := rfl
theorem bp1_run (rows : List Row) (hr : ∀ r ∈ rows, Ow r) (s : Nat → Option Int) (low : Nat) (r : Row) (hrow : rows[low]? = some r) (v : Int) (hv : s low = some v) (hb : v ≤ 100000) (s4 s5 s6 : Sl) (n : Int) :
    BP1 (LS rows s (.val (.int low)) s4 s5 s6) n = some (.ok (.nx (LS rows (relax s (low + 1) (v + pc (.row r))) (.val (.int low)) s4 s5 s6)), n) := by
  have lt : low < rows.length := (List.getElem?_eq_some_iff.mp hrow).1
  have or' := hr r (List.mem_of_getElem? hrow)
  have lc := lrc_ok or' n
  have rl := rc_le or'
  have e : v + pc (.row r) = v + 1 + rc r := by
    show v + (1 + ([r].map rc).sum) = _
    simp
    omega
  have ix := ixAL hrow
  have xl := ixL_nat (lw_get s (n := rows.length) (j := low) (by omega))
  rw [hv] at xl
  replace xl : dIx (.lst (lw s rows.length)) (.int (low : Int)) = some (.int v) := xl
  have xh := ixL_nat (lw_get s (n := rows.length) (j := low + 1) (by omega))
  have cst : ((low + 1 : Nat) : Int) = (low : Int) + 1 := by omega
  have us := uSet_ok (k := low + 1) (d := .int (mn ((s (low + 1)).getD 1000000000) (v + 1 + rc r))) (ds := lw s rows.length) (by unfold lw; rw [List.length_map, List.length_range]; omega)
  rw [lw_put s rows.length (low + 1) (v + 1 + rc r) (by omega)] at us
  rw [cst] at xh us
  have mi := min2 ((s (low + 1)).getD 1000000000) (v + 1 + rc r)
  rw [e]
  unfold LS
  generalize lw (relax s (low + 1) (v + 1 + rc r)) rows.length = L1 at *
  generalize lw s rows.length = L0 at *
  generalize mn ((s (low + 1)).getD 1000000000) (v + 1 + rc r) = MM at *
  generalize (s (low + 1)).getD 1000000000 = OO at *
  generalize (PyE.enc r : D) = Z at *
  generalize encL rows = R at *
  generalize KT = KK at *
  unfold BP1
  simp [xl, xh, ix, lc, mi, us]
theorem bi_run (rows : List Row) (hr : ∀ r ∈ rows, Ow r) (hl : rows.length ≤ 20) (s : Nat → Option Int) (low m t : Nat) (be : BE rows low m t) (v : Int) (hv : s low = some v) (hb : v ≤ 100000) (s6 : Sl) (n : Int) :
    BI (LS rows s (.val (.int low)) (.val (encL (inn rows low m))) (.val (.int t)) s6) n = some (.ok (.nx (LS rows (relax s (low + m * t) (v + pc (.blk t (inn rows low m)))) (.val (.int low)) (.val (encL (inn rows low m))) (.val (.int t)) (.val (.int ((low + m * t : Nat) : Int))))), n) := by
  have ee := E.blk be
  have lt := ee.lt
  have op := ee.op hr hl
  have pl := pc_le op
  have m1 : m * 1 ≤ m * t := Nat.mul_le_mul (Nat.le_refl _) (by have := be.t2; omega)
  have t1 : 1 * t ≤ m * t := Nat.mul_le_mul be.m1 (Nat.le_refl _)
  have li := inn_len (rows := rows) (low := low) (many := m) (by omega)
  have e : v + pc (.blk t (inn rows low m)) = v + 2 + ((inn rows low m).map rc).sum := by
    show v + (2 + ((inn rows low m).map rc).sum) = _
    omega
  have pl' : 2 + ((inn rows low m).map rc).sum ≤ 4000 := pl
  have ll := dLen_L (inn rows low m)
  rw [li] at ll
  have mm := mul_r (m : Int) (t : Int) (by omega) (by omega)
  have mc : ((low + m * t : Nat) : Int) = (low : Int) + (m : Int) * t := by rw [Int.natCast_add, Int.natCast_mul]
  have f1 : BI1 (LS rows s (.val (.int low)) (.val (encL (inn rows low m))) (.val (.int t)) s6) n = some (.ok (.nx (LS rows s (.val (.int low)) (.val (encL (inn rows low m))) (.val (.int t)) (.val (.int ((low + m * t : Nat) : Int))))), n) := by
    rw [mc]
    unfold LS
    generalize lw s rows.length = L0 at *
    generalize encL (inn rows low m) = X at *
    generalize encL rows = R at *
    generalize KT = KK at *
    generalize (m : Int) * (t : Int) = MT at *
    unfold BI1
    simp [ll, mm]
  have S := sum_run 7 f__law_cost rc (iOf (eVar 4)) (LS rows s (.val (.int low)) (.val (encL (inn rows low m))) (.val (.int t)) (.val (.int ((low + m * t : Nat) : Int)))) (inn rows low m) (by omega) (fun r hr' n => lrc_ok (hr r (mem_inn hr')) n) n (by
    have it := it_L (inn rows low m)
    unfold LS
    generalize encL (inn rows low m) = X at *
    generalize KT = KK at *
    simp [it]) (fun d => evar_hs (by show 7 < 8; omega))
  replace S : BS (LS rows s (.val (.int low)) (.val (encL (inn rows low m))) (.val (.int t)) (.val (.int ((low + m * t : Nat) : Int)))) n = some (.ok (.int ((inn rows low m).map rc).sum), n) := S
  have xl := ixL_nat (lw_get s (n := rows.length) (j := low) (by omega))
  rw [hv] at xl
  replace xl : dIx (.lst (lw s rows.length)) (.int (low : Int)) = some (.int v) := xl
  have xh := ixL_nat (lw_get s (n := rows.length) (j := low + m * t) lt.2)
  have us := uSet_ok (k := low + m * t) (d := .int (mn ((s (low + m * t)).getD 1000000000) (v + 2 + ((inn rows low m).map rc).sum))) (ds := lw s rows.length) (by unfold lw; rw [List.length_map, List.length_range]; omega)
  rw [lw_put s rows.length (low + m * t) (v + 2 + ((inn rows low m).map rc).sum) (by omega)] at us
  have mi := min2 ((s (low + m * t)).getD 1000000000) (v + 2 + ((inn rows low m).map rc).sum)
  refine seq_go f1 ?_
  rw [e]
  unfold LS at S ⊢
  generalize lw (relax s (low + m * t) (v + 2 + ((inn rows low m).map rc).sum)) rows.length = L1 at *
  generalize lw s rows.length = L0 at *
  generalize mn ((s (low + m * t)).getD 1000000000) (v + 2 + ((inn rows low m).map rc).sum) = MM at *
  generalize (s (low + m * t)).getD 1000000000 = OO at *
  generalize ((inn rows low m).map rc).sum = SS at *
  generalize encL (inn rows low m) = X at *
  generalize encL rows = R at *
  generalize ((low + m * t : Nat) : Int) = HH at *
  generalize KT = KK at *
  unfold BI2
  generalize BS = bs at *
  simp [xl, xh, S, mi, us]
theorem bf_loop (rows : List Row) (hr : ∀ r ∈ rows, Ow r) (hl : rows.length ≤ 20) (low : Nat) (v : Int) (hb : v ≤ 100000) (n : Int) : ∀ (es : List (Nat × Nat)) (done : List (Part × Nat)) (s : Nat → Option Int) (s4 s5 s6 : Sl), (∀ q ∈ es, BE rows low q.1 q.2) → (∀ q ∈ done, E rows low q.1 q.2) → s low = some v → Inv (PD0 rows low done) s →
    ∃ (s' : Nat → Option Int) (s4' s5' s6' : Sl), forD (gT (gsC (gV 4) (gsC (gV 5) gsN))) BI (es.map (bD rows low)) (LS rows s (.val (.int low)) s4 s5 s6) n = some (.ok (.nx (LS rows s' (.val (.int low)) s4' s5' s6')), n) ∧ Inv (PD0 rows low (done ++ es.map (bk rows low))) s'
  | [], done, s, s4, s5, s6, _, _, _, I => ⟨s, s4, s5, s6, rfl, by rw [List.map_nil, List.append_nil]; exact I⟩
  | q :: es, done, s, s4, s5, s6, he, hd, hv, I => by
    have be := he q List.mem_cons_self
    have ee := E.blk be
    have b := bi_run rows hr hl s low q.1 q.2 be v hv hb s6 n
    have I' := inv_step I hd ee hv
    obtain ⟨s', t4, t5, t6, k1, k2⟩ := bf_loop rows hr hl low v hb n es (done ++ [bk rows low q]) (relax s (low + q.1 * q.2) (v + pc (.blk q.2 (inn rows low q.1)))) (.val (encL (inn rows low q.1))) (.val (.int q.2)) (.val (.int ((low + q.1 * q.2 : Nat) : Int))) (fun x hx => he x (List.mem_cons_of_mem _ hx)) (fun x hx => by
      rcases List.mem_append.mp hx with hx | hx
      · exact hd x hx
      · rw [List.mem_singleton.mp hx]; exact ee) (by rw [relax_ne (by have := ee.lt; omega)]; exact hv) I'
    refine ⟨s', t4, t5, t6, ?_, by rw [List.append_assoc] at k2; exact k2⟩
    rw [List.map_cons, forD_cons]
    have gt : gT (gsC (gV 4) (gsC (gV 5) gsN)) (bD rows low q) (LS rows s (.val (.int low)) s4 s5 s6) = some (LS rows s (.val (.int low)) (.val (encL (inn rows low q.1))) (.val (.int q.2)) s6) := rfl
    rw [gt, bind_ap, opt_some, bindR_ok, bind_ap, b, bindR_ok, turnK_nx, k1]
theorem bo_loop (rows : List Row) (hr : ∀ r ∈ rows, Ow r) (hl : rows.length ≤ 20) (n : Int) : ∀ (d low : Nat) (s : Nat → Option Int) (s3 s4 s5 s6 : Sl), low + d = rows.length → Inv (PE0 rows low) s →
    ∃ (s' : Nat → Option Int) (s3' s4' s5' s6' : Sl), forD (gV 3) BO ((List.range d).map fun i : Nat => D.int ((low + i : Nat) : Int)) (LS rows s s3 s4 s5 s6) n = some (.ok (.nx (LS rows s' s3' s4' s5' s6')), n) ∧ Inv (PE0 rows rows.length) s'
  | 0, low, s, s3, s4, s5, s6, h, I => ⟨s, s3, s4, s5, s6, rfl, (show low = rows.length by omega) ▸ I⟩
  | d + 1, low, s, s3, s4, s5, s6, h, I => by
    obtain ⟨v, v1, v2, v3⟩ := inv_at I (fun _ _ _ z => z) hr low (Nat.le_refl _) (by omega)
    have hrow : rows[low]? = some rows[low] := by simp
    have b1 := bp1_run rows hr s low rows[low] hrow v v1 (by omega) s4 s5 s6 n
    have I1 := inv_step (inv_start I) (fun q hq => by simp at hq) (E.row hrow) v1
    rw [List.nil_append] at I1
    obtain ⟨es, ef, em⟩ := blocks_ok rows low hr hl (by omega) n
    obtain ⟨s1, t4, t5, t6, k1, k2⟩ := bf_loop rows hr hl low v (by omega) n es [(.row rows[low], low + 1)] (relax s (low + 1) (v + pc (.row rows[low]))) s4 s5 s6 (fun q hq => (em q).mp hq) (fun q hq => by rw [List.mem_singleton.mp hq]; exact E.row hrow) (by rw [relax_ne (by omega)]; exact v1) I1
    have I2 := inv_end k2 (fun p x => by
      constructor
      · intro hq
        rcases List.mem_append.mp hq with hq | hq
        · have := List.mem_singleton.mp hq
          cases this
          exact E.row hrow
        · obtain ⟨y, hy, z⟩ := List.mem_map.mp hq
          cases z
          exact E.blk ((em y).mp hy)
      · intro e
        cases e with
        | row k =>
          rw [hrow] at k
          cases k
          exact List.mem_append_left _ (List.mem_singleton.mpr rfl)
        | @blk m t k => exact List.mem_append_right _ (List.mem_map.mpr ⟨(m, t), (em (m, t)).mpr k, rfl⟩))
    obtain ⟨s', u3, u4, u5, u6, m1, m2⟩ := bo_loop rows hr hl n d (low + 1) s1 (.val (.int low)) t4 t5 t6 (by omega) I2
    refine ⟨s', u3, u4, u5, u6, ?_, m2⟩
    have bf : BF (LS rows (relax s (low + 1) (v + pc (.row rows[low]))) (.val (.int low)) s4 s5 s6) n = some (.ok (.nx (LS rows s1 (.val (.int low)) t4 t5 t6)), n) := by
      have it : iOf (eCall (f__law_blocks) (eCons (eVar 0) (eCons (eVar 3) (eCons (eVar 1) eNil)))) (LS rows (relax s (low + 1) (v + pc (.row rows[low]))) (.val (.int low)) s4 s5 s6) n = some (.ok (es.map (bD rows low)), n) := by
        have dl : dItems (.lst (es.map (bD rows low))) = some (es.map (bD rows low)) := rfl
        unfold LS
        generalize (es.map (bD rows low)) = L at *
        generalize KT = KK at *
        generalize encL rows = R at *
        simp [ef, dl]
      unfold BF
      rw [sFor_ap, bind_ap, it, bindR_ok, k1]
    have bo : BO (LS rows s (.val (.int low)) s4 s5 s6) n = some (.ok (.nx (LS rows s1 (.val (.int low)) t4 t5 t6)), n) := seq_go b1 bf
    rw [List.range_succ_eq_map, List.map_cons, List.map_map, forD_cons, bind_ap, gV_ap, opt_some, bindR_ok, bind_ap]
    have le : ((List.range d).map ((fun i : Nat => D.int ((low + i : Nat) : Int)) ∘ Nat.succ)) = (List.range d).map fun i : Nat => D.int ((low + 1 + i : Nat) : Int) := List.map_congr_left fun i _ => by
      show D.int ((low + (i + 1) : Nat) : Int) = _
      rw [show low + (i + 1) = low + 1 + i by omega]
    rw [le]
    show bindR (BO (LS rows s (.val (.int ((low + 0 : Nat) : Int))) s4 s5 s6) n) _ = _
    rw [Nat.add_zero, bo, bindR_ok, turnK_nx, m1]
theorem best_ok (rows : List Row) (hr : ∀ r ∈ rows, Ow r) (hl : rows.length ≤ 20) (n : Int) : ∃ s, Inv (PE0 rows rows.length) s ∧ f__law_best [encL rows, KT] n = some (.ok (.lst (lw s rows.length)), n) := by
  obtain ⟨s, t3, t4, t5, t6, k1, k2⟩ := bo_loop rows hr hl n rows.length 0 (fun h => if h = 0 then some 0 else none) .no .no .no .no (by omega) (inv0 rows)
  refine ⟨s, k2, ?_⟩
  have e0 : B0 [.val (encL rows), .val KT, .no, .no, .no, .no, .no, .no] n = some (.ok (.nx (LS rows (fun h => if h = 0 then some 0 else none) .no .no .no .no)), n) := by
    have p : dPow (.int 10) (.int 9) = some (.int 1000000000) := by kernel_rfl
    have l1 := dLen_L rows
    have ml := dMulL_ok (xs := [D.int 1000000000]) (k := rows.length) (by omega) (by simp)
    have lc : lw (fun h => if h = 0 then some 0 else none) rows.length = [D.int 0] ++ pw [D.int 1000000000] rows.length := by
      unfold lw
      rw [List.range_succ_eq_map, List.map_cons, List.map_map]
      show D.int 0 :: (List.range rows.length).map ((fun j : Nat => D.int (((fun h => if h = 0 then some 0 else none : Nat → Option Int) j).getD 1000000000)) ∘ Nat.succ) = D.int 0 :: pw [D.int 1000000000] rows.length
      congr 1
      apply List.ext_getElem
      · rw [List.length_map, List.length_range, pw_length]; simp
      · intro i h1 h2
        rw [List.getElem_map]
        have : ∀ (k i : Nat) (h : i < (pw [D.int 1000000000] k).length), (pw [D.int 1000000000] k)[i] = D.int 1000000000 := fun k => by
          induction k with
          | zero => intro i h; simp [pw_zero] at h
          | succ k ih =>
            intro i h
            simp only [pw_succ, List.singleton_append]
            cases i with
            | zero => rfl
            | succ i => rw [List.getElem_cons_succ]; exact ih i _
        rw [this]
        rfl
    have ct := catL_of (xs := [D.int 0]) (ys := pw [D.int 1000000000] rows.length) (by rw [pw_length]; simp; omega)
    rw [← lc] at ct
    unfold LS
    generalize lw (fun h => if h = 0 then some 0 else none) rows.length = L0 at *
    generalize pw [D.int 1000000000] rows.length = P0 at *
    generalize encL rows = R at *
    generalize KT = KK at *
    unfold B0
    simp [p, l1, ml, ct]
  have e1 : BFo (LS rows (fun h => if h = 0 then some 0 else none) .no .no .no .no) n = some (.ok (.nx (LS rows s t3 t4 t5 t6)), n) := by
    have rg : iRng1D (eCons (eB dLen (eCons (eVar 0) eNil)) eNil) (LS rows (fun h => if h = 0 then some 0 else none) .no .no .no .no) n = some (.ok ((List.range rows.length).map fun i : Nat => D.int ((0 + i : Nat) : Int)), n) := by
      have l1 := dLen_L rows
      have r := rng1 rows.length (by omega)
      simp only [Nat.zero_add]
      unfold LS
      generalize ((List.range rows.length).map fun i : Nat => D.int i) = RR at *
      generalize encL rows = R at *
      generalize KT = KK at *
      simp [l1, r]
    unfold BFo
    rw [sFor_ap, bind_ap, rg, bindR_ok, k1]
  have e2 : sFrz 2 (LS rows s t3 t4 t5 t6) n = some (.ok (.nx [.val (encL rows), .val KT, .val (.lst (lw s rows.length)), t3, t4, t5, t6, .no]), n) := by
    have fz : frzE 2 (LS rows s t3 t4 t5 t6) = some [.val (encL rows), .val KT, .val (.lst (lw s rows.length)), t3, t4, t5, t6, .no] := rfl
    rw [sFrz_ap, bind_ap, fz]; rfl
  have go : BL [.val (encL rows), .val KT, .no, .no, .no, .no, .no, .no] n = some (.ok (.ret (.lst (lw s rows.length))), n) := seq_go e0 (seq_go e1 (seq_go e2 rfl))
  have sh : f__law_best [encL rows, KT] n = bindR (BL ([encL rows, KT].map Sl.val ++ List.replicate (8 - 2) Sl.no) n) runK := by
    unfold f__law_best
    rw [runD_ap, bind_ap, BL_eq]
  have arg : ([encL rows, KT].map Sl.val ++ List.replicate (8 - 2) Sl.no) = [.val (encL rows), .val KT, .no, .no, .no, .no, .no, .no] := rfl
  rw [sh, arg, go]
  rfl
end K47
end

section
set_option Elab.async false
set_option linter.all false
set_option autoImplicit false
set_option maxRecDepth 100000
namespace K47
open DL PySem L2 P_k47_whole_charts PyProof.Rows
/-! ### the law's price -/
def LPr : EX := (eComp [2] (gV 2) (iOf (eVar 0)) tYesD (eIf (tB (e2 dEq (e2 dIx (eVar 2) (eC (.int 0))) (eC (.str "row")))) (eCut (eVar 2) (oSome (eC (.int 1))) oNone) (e2 dIx (eVar 2) (eC (.int 2)))))
def LPx : EX := (eB dSum (eCons (eComp [4] (gV 4) (iOf (eVar 3)) tYesD (eCall (f__law_cost) (eCons (eVar 4) eNil))) eNil))
def LPs : EX := (eB dSum (eCons (eComp [3] (gV 3) (iOf (eVar 1)) tYesD LPx) eNil))
def LPy : EX := (eIf (tB (e2 dEq (e2 dIx (eVar 2) (eC (.int 0))) (eC (.str "row")))) (eC (.int 1)) (eC (.int 2)))
def LPt : EX := (eB dSum (eCons (eComp [2] (gV 2) (iOf (eVar 0)) tYesD LPy) eNil))
def LPP : SX := (sSeq (sAsg (gV 1) LPr) (sRet (e2 dAdd LPs LPt)))
theorem LPP_eq : g__law_price = LPP := rfl
def p12 : Part → Int
  | .row _ => 1
  | .blk _ _ => 2
theorem pc_split : ∀ ps : List Part, (ps.map fun p => ((prs p).map rc).sum).sum + (ps.map p12).sum = (ps.map pc).sum
  | [] => rfl
  | p :: ps => by
    have ih := pc_split ps
    rw [List.map_cons, List.map_cons, List.map_cons, List.sum_cons, List.sum_cons, List.sum_cons]
    have : pc p = p12 p + ((prs p).map rc).sum := by cases p <;> rfl
    omega
theorem price_ok (ps : List Part) (hp : ∀ p ∈ ps, Op p) (hpl : ps.length ≤ 1000) (n : Int) : f__law_price [.tup (ps.map pD)] n = some (.ok (.int (ps.map pc).sum), n) := by
  have it : dItems (.tup (ps.map pD)) = some (ps.map pD) := rfl
  have f0 : LPr [.val (.tup (ps.map pD)), .no, .no, .no, .no] n = some (.ok (.lst (ps.map fun p => encT (prs p))), n) := by
    have c := comp_all pD (compB [2] (gV 2) tYesD (eIf (tB (e2 dEq (e2 dIx (eVar 2) (eC (.int 0))) (eC (.str "row")))) (eCut (eVar 2) (oSome (eC (.int 1))) oNone) (e2 dIx (eVar 2) (eC (.int 2)))) [.val (.tup (ps.map pD)), .no, .no, .no, .no]) (fun p => encT (prs p)) n ps fun p hp' => by
      cases p with
      | row r =>
        have x0 : dIx (pD (.row r)) (.int 0) = some (.str "row") := rfl
        have cu : dCut (pD (.row r)) (some 1) none = some (encT (prs (.row r))) := rfl
        generalize encT (prs (.row r)) = Z at *
        generalize pD (.row r) = Y at *
        simp [x0, cu, s_rr]
      | blk t rs =>
        have x0 : dIx (pD (.blk t rs)) (.int 0) = some (.str "block") := rfl
        have cu : dIx (pD (.blk t rs)) (.int 2) = some (encT (prs (.blk t rs))) := rfl
        generalize encT (prs (.blk t rs)) = Z at *
        generalize pD (.blk t rs) = Y at *
        simp [x0, cu, s_br]
    have ml := mkLst_of (ds := ps.map fun p => encT (prs p)) (by rw [List.length_map]; omega)
    generalize (ps.map fun p => encT (prs p)) = B at *
    generalize (ps.map pD) = A at *
    unfold LPr
    simp [it, c, ml]
  have f1 : (sAsg (gV 1) LPr) [.val (.tup (ps.map pD)), .no, .no, .no, .no] n = some (.ok (.nx [.val (.tup (ps.map pD)), .val (.lst (ps.map fun p => encT (prs p))), .no, .no, .no]), n) := by
    rw [sAsg_ap, bind_ap, f0, bindR_ok, bind_ap, gV_ap, opt_some, bindR_ok, pure_ap]
    rfl
  have S1 := sum_runE (fun p => encT (prs p)) 3 LPx (fun p => ((prs p).map rc).sum) (iOf (eVar 1)) [.val (.tup (ps.map pD)), .val (.lst (ps.map fun p => encT (prs p))), .no, .no, .no] ps hpl n (fun p hp' => by
    obtain ⟨o1, o2⟩ := op_rows (hp p hp')
    exact sum_run 4 f__law_cost rc (iOf (eVar 3)) _ (prs p) (by omega) (fun r hr n => lrc_ok (o2 r hr) n) n (by
      have i := show dItems (encT (prs p)) = some ((prs p).map PyE.enc) from rfl
      have v3 := evar_hs (v := 3) (ρ := [.val (.tup (ps.map pD)), .val (.lst (ps.map fun p => encT (prs p))), .no, .no, .no]) (d := encT (prs p)) (n := n) (by show 3 < 5; omega)
      rw [iOf_ap, bind_ap, v3, bindR_ok, i, opt_some]) (fun d => evar_hs (by rw [List.length_set, hide_length, wipeD_length]; show 4 < 5; omega))) (by
    have i2 : dItems (.lst (ps.map fun p => encT (prs p))) = some (ps.map fun p => encT (prs p)) := rfl
    generalize (ps.map fun p => encT (prs p)) = B at *
    simp [i2])
  replace S1 : LPs [.val (.tup (ps.map pD)), .val (.lst (ps.map fun p => encT (prs p))), .no, .no, .no] n = some (.ok (.int (ps.map fun p => ((prs p).map rc).sum).sum), n) := S1
  have S2 := sum_runE pD 2 LPy p12 (iOf (eVar 0)) [.val (.tup (ps.map pD)), .val (.lst (ps.map fun p => encT (prs p))), .no, .no, .no] ps hpl n (fun p hp' => by
    have v2 := evar_hs (v := 2) (ρ := [.val (.tup (ps.map pD)), .val (.lst (ps.map fun p => encT (prs p))), .no, .no, .no]) (d := pD p) (n := n) (by show 2 < 5; omega)
    generalize (hide (wipeD [.val (.tup (ps.map pD)), .val (.lst (ps.map fun p => encT (prs p))), .no, .no, .no] [2])).set 2 (.val (pD p)) = ρ1 at *
    unfold LPy
    cases p with
    | row r =>
      have x0 : dIx (pD (.row r)) (.int 0) = some (.str "row") := rfl
      show _ = some (Except.ok (D.int 1), n)
      generalize pD (.row r) = Y at *
      simp [x0, v2, s_rr]
    | blk t rs =>
      have x0 : dIx (pD (.blk t rs)) (.int 0) = some (.str "block") := rfl
      show _ = some (Except.ok (D.int 2), n)
      generalize pD (.blk t rs) = Y at *
      simp [x0, v2, s_br]) (by
    generalize (ps.map fun p => encT (prs p)) = B at *
    generalize (ps.map pD) = A at *
    simp [it])
  replace S2 : LPt [.val (.tup (ps.map pD)), .val (.lst (ps.map fun p => encT (prs p))), .no, .no, .no] n = some (.ok (.int (ps.map p12).sum), n) := S2
  have go : LPP [.val (.tup (ps.map pD)), .no, .no, .no, .no] n = some (.ok (.ret (.int (ps.map pc).sum)), n) := seq_go f1 (by
    rw [← pc_split ps]
    generalize [Sl.val (.tup (ps.map pD)), .val (.lst (ps.map fun p => encT (prs p))), .no, .no, .no] = ρ at *
    generalize LPs = a at *
    generalize LPt = b at *
    simp [S1, S2])
  have sh : f__law_price [.tup (ps.map pD)] n = bindR (LPP ([D.tup (ps.map pD)].map Sl.val ++ List.replicate (5 - 1) Sl.no) n) runK := by
    unfold f__law_price
    rw [runD_ap, bind_ap, LPP_eq]
  have arg : ([D.tup (ps.map pD)].map Sl.val ++ List.replicate (5 - 1) Sl.no) = [.val (.tup (ps.map pD)), .no, .no, .no, .no] := rfl
  rw [sh, arg, go]
  rfl
/-! ### the law's rows -/
def AR2 : SX := (sSeq (sAsg (gV 4) (e2 dAdd (e2 dIx (e2 dIx (eVar 3) (eC (.int 1))) (eC (.int 0))) (e2 dMul (e2 dIx (e2 dIx (eVar 3) (eC (.int 1))) (eC (.int 1))) (eVar 1))))
  (sSeq (sIf (tB (e2 dLt (eVar 4) (eC (.int 0)))) (sSeq (sFrz 2) (sRet (e2 dAdd (eVar 2) (eLst (eCons (eC .non) eNil))))) sNx)
  (sExt 2 (e2 dMulL (eB dLstA (eCons (e2 dIx (eVar 3) (eC (.int 2))) eNil)) (eVar 4)))))
def ARb : SX := (sIf (tB (e2 dEq (e2 dIx (eVar 3) (eC (.int 0))) (eC (.str "row")))) (sApp 2 (e2 dIx (eVar 3) (eC (.int 1)))) AR2)
def ARf : SX := (sFor (gV 3) (iOf (eVar 0)) ARb)
def AR : SX := (sSeq (sOwn 2 (.lst [])) (sSeq ARf (sSeq (sFrz 2) (sRet (eVar 2)))))
theorem AR_eq : g__law_all_rows = AR := rfl
def AE (P : D) (acc : List Row) (s3 s4 : Sl) : DL.Env := [.val P, .val (.int 3), .own (encL acc), s3, s4]
theorem ar_run {p : Part} (h : Op p) (P : D) (acc : List Row) (hl : acc.length ≤ 10000000) (s4 : Sl) (n : Int) : ∃ s4', ARb (AE P acc (.val (pD p)) s4) n = some (.ok (.nx (AE P (acc ++ pun p) (.val (pD p)) s4')), n) := by
  cases p with
  | row r =>
    refine ⟨s4, ?_⟩
    have x0 : dIx (pD (.row r)) (.int 0) = some (.str "row") := rfl
    have x1 : dIx (pD (.row r)) (.int 1) = some (PyE.enc r) := rfl
    have up := uApp_ok (PyE.enc r) (acc.map PyE.enc) (by rw [List.length_map]; omega)
    have e : D.lst (acc.map PyE.enc ++ [PyE.enc r]) = encL (acc ++ pun (.row r)) := by
      unfold encL
      rw [List.map_append]
      rfl
    rw [e] at up
    replace up : uApp (PyE.enc r) (encL acc) = some (encL (acc ++ pun (.row r))) := up
    have ow : ∀ s3 s4, ownLst 2 [.val P, .val (.int 3), .own (encL acc), s3, s4] = some () := fun _ _ => rfl
    unfold AE
    generalize encL (acc ++ pun (.row r)) = A1 at *
    generalize encL acc = A0 at *
    generalize pD (.row r) = Y at *
    generalize (PyE.enc r : D) = Z at *
    unfold ARb
    simp [x0, x1, s_rr, ow, up]
  | blk t rs =>
    refine ⟨.val (.int t), ?_⟩
    have x0 : dIx (pD (.blk t rs)) (.int 0) = some (.str "block") := rfl
    have x1 : dIx (pD (.blk t rs)) (.int 1) = some (.tup [.int t, .int 0]) := rfl
    have x2 : dIx (pD (.blk t rs)) (.int 2) = some (encT rs) := rfl
    have y0 : dIx (.tup [.int (t : Int), .int 0]) (.int 0) = some (.int t) := rfl
    have y1 : dIx (.tup [.int (t : Int), .int 0]) (.int 1) = some (.int 0) := rfl
    have mm := mul_l 0 3 (by omega) (by omega)
    have la := lstA_T rs
    have tp : ¬ (t : Int) < 0 := by omega
    have ml := dMulL_L (xs := rs) (k := t) (by have := h.2.1; omega) (by have := h.2.2.2.1; omega)
    have ow : ∀ s3 s4, ownLst 2 [.val P, .val (.int 3), .own (encL acc), s3, s4] = some () := fun _ _ => rfl
    have ex : uExt (encL (pun (.blk t rs))) (encL acc) = some (encL (acc ++ pun (.blk t rs))) := by
      have lp : (pun (.blk t rs)).length ≤ 99 * 20 := by
        show (pw rs t).length ≤ _
        rw [pw_length]; exact Nat.mul_le_mul h.2.1 h.2.2.2.1
      have := uExt_ok (xs := acc.map (PyE.enc : Row → D)) (ys := (pun (.blk t rs)).map PyE.enc) (by rw [List.length_map, List.length_map]; omega)
      rw [← List.map_append] at this
      exact this
    replace ml : dMulL (encL rs) (.int (t : Int)) = some (encL (pun (.blk t rs))) := ml
    unfold AE
    generalize encL (acc ++ pun (.blk t rs)) = A2 at *
    generalize encL (pun (.blk t rs)) = A1 at *
    generalize encL acc = A0 at *
    generalize encL rs = B1 at *
    generalize encT rs = B0 at *
    generalize (D.tup [.int (t : Int), .int 0]) = L at *
    generalize pD (.blk t rs) = Y at *
    unfold ARb AR2
    simp [x0, x1, x2, y0, y1, s_br, mm, tp, la, ml, ow, ex]
theorem ar_loop (P : D) (n : Int) : ∀ (ps : List Part) (acc : List Row) (s3 s4 : Sl), (∀ p ∈ ps, Op p) → acc.length + ps.length * 1980 ≤ 10000000 → ∃ s3' s4', forD (gV 3) ARb (ps.map pD) (AE P acc s3 s4) n = some (.ok (.nx (AE P (acc ++ ps.flatMap pun) s3' s4')), n)
  | [], acc, s3, s4, _, _ => ⟨s3, s4, by simp⟩
  | p :: ps, acc, s3, s4, h, hl => by
    rw [List.length_cons] at hl
    have hp := h p List.mem_cons_self
    have lp : (pun p).length ≤ 1980 := by
      cases p with
      | row r => show 1 ≤ 1980; omega
      | blk t rs =>
        show (pw rs t).length ≤ _
        rw [pw_length]
        exact Nat.mul_le_mul hp.2.1 hp.2.2.2.1
    obtain ⟨s4', b⟩ := ar_run hp P acc (by omega) s4 n
    obtain ⟨t3, t4, e⟩ := ar_loop P n ps (acc ++ pun p) (.val (pD p)) s4' (fun q hq => h q (List.mem_cons_of_mem _ hq)) (by rw [List.length_append]; omega)
    refine ⟨t3, t4, ?_⟩
    rw [List.map_cons, forD_cons, bind_ap, gV_ap, opt_some, bindR_ok, bind_ap]
    show bindR (ARb (AE P acc (.val (pD p)) s4) n) _ = _
    rw [b, bindR_ok, turnK_nx, e, List.flatMap_cons, List.append_assoc]
theorem allrows_ok (ps : List Part) (h : ∀ p ∈ ps, Op p) (hl : ps.length ≤ 1000) (n : Int) : f__law_all_rows [.tup (ps.map pD), .int 3] n = some (.ok (encL (ps.flatMap pun)), n) := by
  obtain ⟨s3, s4, e⟩ := ar_loop (.tup (ps.map pD)) n ps [] .no .no h (by simp; omega)
  rw [List.nil_append] at e
  have it : dItems (.tup (ps.map pD)) = some (ps.map pD) := rfl
  have f1 : ARf (AE (.tup (ps.map pD)) [] .no .no) n = some (.ok (.nx (AE (.tup (ps.map pD)) (ps.flatMap pun) s3 s4)), n) := by
    have i0 : iOf (eVar 0) (AE (.tup (ps.map pD)) [] .no .no) n = some (.ok (ps.map pD), n) := by
      unfold AE
      generalize ps.map pD = A at *
      simp [it]
    unfold ARf
    rw [sFor_ap, bind_ap, i0, bindR_ok, e]
  have go : AR [.val (.tup (ps.map pD)), .val (.int 3), .no, .no, .no] n = some (.ok (.ret (encL (ps.flatMap pun))), n) := seq_go (ρ1 := AE (.tup (ps.map pD)) [] .no .no) rfl (seq_go f1 (seq_go (ρ1 := [.val (.tup (ps.map pD)), .val (.int 3), .val (encL (ps.flatMap pun)), s3, s4]) rfl rfl))
  have sh : f__law_all_rows [.tup (ps.map pD), .int 3] n = bindR (AR ([D.tup (ps.map pD), .int 3].map Sl.val ++ List.replicate (5 - 2) Sl.no) n) runK := by
    unfold f__law_all_rows
    rw [runD_ap, bind_ap, AR_eq]
  have arg : ([D.tup (ps.map pD), .int 3].map Sl.val ++ List.replicate (5 - 2) Sl.no) = [.val (.tup (ps.map pD)), .val (.int 3), .no, .no, .no] := rfl
  rw [sh, arg, go]
  rfl
end K47
end

section
set_option Elab.async false
set_option linter.all false
set_option autoImplicit false
set_option maxRecDepth 100000
namespace K47
open DL PySem L2 P_k47_whole_charts PyProof.Rows
/-! ### the drawn chart -/
def GLk : List (List Kd) := [[.k], [.k, .p], [.p, .p], [.yo, .k2tog], [.k, .p, .p], [.sl, .k], [.c2f], [.k2tog, .m1l]]
def gk (ks : List Kd) : D := .tup (ks.map fun k => .str k.s)
def gw (ks : List Kd) : Word := ks.map fun k => ⟨k, .a⟩
theorem glk_ok : ∀ ks ∈ GLk, ks.length ≤ 3 ∧ ks ≠ [] ∧ 0 < K47.T (gw ks) := by decide
theorem gcomp (W : Wd) (ρ : DL.Env) (h0 : ∀ d n, eVar 0 ((hide (wipeD ρ [4])).set 4 (.val d)) n = some (.ok .drw, n)) (h2 : ∀ d n, eVar 2 ((hide (wipeD ρ [4])).set 4 (.val d)) n = some (.ok (.lst [.str "a"]), n)) (h4 : ∀ d n, eVar 4 ((hide (wipeD ρ [4])).set 4 (.val d)) n = some (.ok d, n)) : ∀ (ks : List Kd) (n : Int), ∃ n', compD (compB [4] (gV 4) tYesD (eTup (eCons (eVar 4) (eCons (eCall (f__law_pick W) (eCons (eVar 0) (eCons (eVar 2) eNil))) eNil))) ρ) (ks.map fun k => D.str k.s) n = some (.ok ((gw ks).map PyE.enc), n')
  | [], n => ⟨n, rfl⟩
  | k :: ks, n => by
    obtain ⟨d, hd, e⟩ := pick_ok W [.str "a"] (by simp) n
    have := List.mem_singleton.mp hd
    subst this
    obtain ⟨n', ih⟩ := gcomp W ρ h0 h2 h4 ks (n + 1)
    refine ⟨n', ?_⟩
    have a0 := h0 (.str k.s) n
    have a2 := h2 (.str k.s) n
    have a4 := h4 (.str k.s) n
    have b : compB [4] (gV 4) tYesD (eTup (eCons (eVar 4) (eCons (eCall (f__law_pick W) (eCons (eVar 0) (eCons (eVar 2) eNil))) eNil))) ρ (.str k.s) n = some (.ok (some (.tup [.str k.s, .str "a"])), n + 1) := by
      rw [compB_ap, gV_ap, bind_ap, opt_some, bindR_ok]
      generalize (hide (wipeD ρ [4])).set 4 (.val (.str k.s)) = ρ1 at *
      simp [a0, a2, a4, e]
    rw [List.map_cons, compD_cons, bind_ap, b, bindR_ok, bind_ap, ih, bindR_ok, pure_ap]
    rfl
theorem group_ok (W : Wd) (n : Int) : ∃ ks n', ks ∈ GLk ∧ f__law_group W [.drw, .bl true, .lst [.str "a"]] n = some (.ok (encT (gw ks)), n') := by
  obtain ⟨d, hd, e⟩ := pick_ok W (GLk.map gk) (by simp [GLk]) n
  obtain ⟨ks, hk, rfl⟩ := List.mem_map.mp hd
  have lst : (GLk.map gk) = [.tup [.str "k"], .tup [.str "k", .str "p"], .tup [.str "p", .str "p"], .tup [.str "yo", .str "k2tog"], .tup [.str "k", .str "p", .str "p"], .tup [.str "sl", .str "k"], .tup [.str "c2f"], .tup [.str "k2tog", .str "m1l"]] := rfl
  obtain ⟨n', c⟩ := gcomp W [.val .drw, .val (.bl true), .val (.lst [.str "a"]), .val (.lst (GLk.map gk)), .no] (fun _ _ => rfl) (fun _ _ => rfl) (fun _ _ => rfl) ks (n + 1)
  refine ⟨ks, n', hk, ?_⟩
  have it : dItems (gk ks) = some (ks.map fun k => D.str k.s) := rfl
  have z : ((gw ks).map (PyE.enc : Cell → D)).length ≤ 16777216 := by
    have := (glk_ok ks hk).1
    unfold gw
    rw [List.length_map, List.length_map]; omega
  have ml := mkLst_of z
  have tp : dTupOf [.lst ((gw ks).map (PyE.enc : Cell → D))] = some (encT (gw ks)) := rfl
  have gz := gz_of (ds := GLk.map gk) (by rw [List.length_map]; show 8 ≤ _; omega)
  have fz : frzE 3 [.val .drw, .val (.bl true), .val (.lst [.str "a"]), .own (.lst (GLk.map gk)), .no] = some [.val .drw, .val (.bl true), .val (.lst [.str "a"]), .val (.lst (GLk.map gk)), .no] := rfl
  rw [lst] at e c gz fz
  generalize encT (gw ks) = Z at *
  generalize ((gw ks).map (PyE.enc : Cell → D)) = B at *
  generalize (ks.map fun k => D.str k.s) = A at *
  generalize gk ks = G at *
  simp only [f__law_group, g__law_group]
  simp [e, c, it, ml, tp, gz, fz]
theorem compD_exP {α : Type} (h : α → D) (P : α → Prop) (b : D → DL.M (Option D)) : ∀ (ds : List D) (n : Int), (∀ d ∈ ds, ∀ n, ∃ x : α, ∃ n', P x ∧ b d n = some (.ok (some (h x)), n')) → ∃ xs : List α, ∃ n', (∀ x ∈ xs, P x) ∧ compD b ds n = some (.ok (xs.map h), n') ∧ xs.length = ds.length
  | [], n, _ => ⟨[], n, by simp, rfl, rfl⟩
  | d :: ds, n, hb => by
    obtain ⟨x, n1, p1, h1⟩ := hb d List.mem_cons_self n
    obtain ⟨xs, n2, p2, h2, h3⟩ := compD_exP h P b ds n1 fun y hy => hb y (List.mem_cons_of_mem _ hy)
    exact ⟨x :: xs, n2, fun y hy => by
      rcases List.mem_cons.mp hy with rfl | hy
      · exact p1
      · exact p2 y hy, by rw [compD_cons]; simp [h1, h2], by simp [h3]⟩
theorem rowB_plain (w : Word) (h : w.length ≤ 60) : rowB w [] [] = true := by
  unfold rowB
  rw [decide_eq_true h, if_pos rfl]
  rfl
theorem rowB_grp {b g a : Word} (hb : b.length ≤ 60) (hg : g.length ≤ 30) (ha : a.length ≤ 60) (h0 : g ≠ []) (ht : 0 < K47.T g) : rowB b g a = true := by
  unfold rowB
  rw [decide_eq_true hb, decide_eq_true hg, decide_eq_true ha, if_neg h0, decide_eq_true ht]
  rfl
def CHr (W : Wd) : EX := (eTup (eCons (eCall (f__law_word W) (eCons (eVar 0) (eCons (eC (.int 1)) (eCons (eLst (eCons (eC (.str "a")) eNil)) eNil)))) (eCons (eCall (f__law_group W) (eCons (eVar 0) (eCons (eC (.bl true)) (eCons (eLst (eCons (eC (.str "a")) eNil)) eNil)))) (eCons (eCall (f__law_word W) (eCons (eVar 0) (eCons (eC (.int 1)) (eCons (eLst (eCons (eC (.str "a")) eNil)) eNil)))) eNil))))
def CH1 (W : Wd) : SX := (sOwnN 1 (nComp [3] (gV 3) (iRng1D (eCons (eC (.int 2)) eNil)) tYesD (CHr W)))
def CH2 (W : Wd) : SX := (sApp 1 (eTup (eCons (eCall (f__law_word W) (eCons (eVar 0) (eCons (eC (.int 3)) (eCons (eLst (eCons (eC (.str "a")) (eCons (eC (.str "b")) eNil))) eNil)))) (eCons (eTup eNil) (eCons (eTup eNil) eNil)))))
def CH3 : SX := (sApp 1 (eTup (eCons (eTup eNil) (eCons (eTup (eCons (eTup (eCons (eC (.str "kfb")) (eCons (eC (.str "a")) eNil))) eNil)) (eCons (eTup eNil) eNil)))))
def CHb1 (W : Wd) : SX := (sAsg (gV 4) (eComp [5] (gV 5) (iRng1D (eCons (e2 dAdd (eC (.int 1)) (eCall (f__law_take W) (eCons (eVar 0) (eCons (eC (.int 2)) eNil)))) eNil)) tYesD (eCall (f__law_pick W) (eCons (eVar 0) (eCons (eVar 1) eNil)))))
def CHb2 (W : Wd) : SX := (sAsg (gV 2) (e2 dAdd (eVar 2) (e2 dMulL (eVar 4) (e2 dAdd (eC (.int 1)) (eCall (f__law_take W) (eCons (eVar 0) (eCons (eC (.int 3)) eNil)))))))
def CHb (W : Wd) : SX := (sSeq (CHb1 W) (CHb2 W))
def CHf (W : Wd) : SX := (sFor (gV 3) (iRng1D (eCons (e2 dAdd (eC (.int 1)) (eCall (f__law_take W) (eCons (eVar 0) (eCons (eC (.int 3)) eNil)))) eNil)) (CHb W))
def CHL (W : Wd) : SX := (sSeq (CH1 W) (sSeq (CH2 W) (sSeq CH3 (sSeq (sFrz 1) (sSeq (sAsg (gV 2) (eLst eNil)) (sSeq (CHf W) (sRet (eCut (eVar 2) oNone (oSome (eC (.int 9)))))))))))
theorem CHL_eq (W : Wd) : g__law_chart W = CHL W := rfl
def HE (RS F : List Row) (s3 s4 : Sl) : DL.Env := [.val .drw, .val (encL RS), .val (encL F), s3, s4, .no]
theorem chb_run (W : Wd) (RS : List Row) (hne : RS ≠ []) (ho : ∀ r ∈ RS, Ow r) (F : List Row) (hF : ∀ r ∈ F, Ow r) (hl : F.length ≤ 1000) (t : D) (s4 : Sl) (n : Int) :
    ∃ (B : List Row) (s4' : Sl) (n' : Int), CHb W (HE RS F (.val t) s4) n = some (.ok (.nx (HE RS (F ++ B) (.val t) s4')), n') ∧ (∀ r ∈ B, Ow r) ∧ 1 ≤ B.length ∧ B.length ≤ 6 := by
  obtain ⟨v, v0, v1, e1⟩ := take_ok W 2 n (by omega)
  obtain ⟨j, rfl⟩ : ∃ j : Nat, v = (j : Int) := ⟨v.toNat, by omega⟩
  obtain ⟨xs, n1, px, c, lx⟩ := compD_exP (PyE.enc : Row → D) Ow (compB [5] (gV 5) tYesD (eCall (f__law_pick W) (eCons (eVar 0) (eCons (eVar 1) eNil))) (HE RS F (.val t) s4)) ((List.range (1 + j)).map fun i : Nat => D.int i) (n + 1) fun d _ n => by
    obtain ⟨y, hy, e⟩ := pick_ok W (RS.map PyE.enc) (by simpa using hne) n
    obtain ⟨r, hr, rfl⟩ := List.mem_map.mp hy
    refine ⟨r, n + 1, ho r hr, ?_⟩
    have v0 : eVar 0 ((hide (wipeD (HE RS F (.val t) s4) [5])).set 5 (.val d)) n = some (.ok .drw, n) := evar_ho (by omega) rfl
    have v1 : eVar 1 ((hide (wipeD (HE RS F (.val t) s4) [5])).set 5 (.val d)) n = some (.ok (encL RS), n) := evar_ho (by omega) rfl
    rw [compB_ap, gV_ap, bind_ap, opt_some, bindR_ok]
    generalize (hide (wipeD (HE RS F (.val t) s4) [5])).set 5 (.val d) = ρ1 at *
    have e' : f__law_pick W [.drw, encL RS] n = some (.ok (PyE.enc r), n + 1) := e
    generalize (PyE.enc r : D) = Z at *
    simp [v0, v1, e']
  rw [List.length_map, List.length_range] at lx
  obtain ⟨u, u0, u1, e2⟩ := take_ok W 3 n1 (by omega)
  obtain ⟨k, rfl⟩ : ∃ k : Nat, u = (k : Int) := ⟨u.toNat, by omega⟩
  refine ⟨pw xs (1 + k), .val (encL xs), n1 + 1, ?_, fun r hr => ?_, ?_, ?_⟩
  · have f1 : CHb1 W (HE RS F (.val t) s4) n = some (.ok (.nx (HE RS F (.val t) (.val (encL xs)))), n1) := by
      have r := rng1 (1 + j) (by omega)
      have cst : ((1 + j : Nat) : Int) = 1 + (j : Int) := by omega
      rw [cst] at r
      have ml := mkLst_of (ds := xs.map (PyE.enc : Row → D)) (by rw [List.length_map]; omega)
      have lx : D.lst (xs.map (PyE.enc : Row → D)) = encL xs := rfl
      rw [lx] at ml
      unfold HE at c ⊢
      generalize encL xs = X at *
      generalize (xs.map (PyE.enc : Row → D)) = B at *
      generalize ((List.range (1 + j)).map fun i : Nat => D.int i) = A at *
      generalize encL F = FF at *
      generalize encL RS = R at *
      unfold CHb1
      simp [e1, r, c, ml]
    have f2 : CHb2 W (HE RS F (.val t) (.val (encL xs))) n1 = some (.ok (.nx (HE RS (F ++ pw xs (1 + k)) (.val t) (.val (encL xs)))), n1 + 1) := by
      have ml := dMulL_L (xs := xs) (k := 1 + k) (by omega) (by omega)
      have cst : ((1 + k : Nat) : Int) = 1 + (k : Int) := by omega
      rw [cst] at ml
      have ad : dAdd (encL F) (encL (pw xs (1 + k))) = some (encL (F ++ pw xs (1 + k))) := by
        unfold encL
        rw [List.map_append]
        refine mkLst_of ?_
        rw [List.length_append, List.length_map, List.length_map, pw_length]
        have : (1 + k) * xs.length ≤ 3 * 2 := Nat.mul_le_mul (by omega) (by omega)
        omega
      unfold HE
      generalize encL (F ++ pw xs (1 + k)) = X3 at *
      generalize encL (pw xs (1 + k)) = X2 at *
      generalize encL xs = X at *
      generalize encL F = FF at *
      generalize encL RS = R at *
      unfold CHb2
      simp [e2, ml, ad]
    exact seq_go f1 f2
  · have : ∀ m : Nat, r ∈ pw xs m → r ∈ xs := fun m => by
      induction m with
      | zero => intro h; simp [pw_zero] at h
      | succ m ih =>
        intro h
        rw [pw_succ] at h
        rcases List.mem_append.mp h with h | h
        · exact h
        · exact ih h
    exact px r (this _ hr)
  · rw [pw_length]
    have : 1 * 1 ≤ (1 + k) * xs.length := Nat.mul_le_mul (by omega) (by omega)
    omega
  · rw [pw_length]
    have : (1 + k) * xs.length ≤ 3 * 2 := Nat.mul_le_mul (by omega) (by omega)
    omega
theorem chf_loop (W : Wd) (RS : List Row) (hne : RS ≠ []) (ho : ∀ r ∈ RS, Ow r) : ∀ (ds : List D) (F : List Row) (s3 s4 : Sl) (n : Int), (∀ r ∈ F, Ow r) → F.length + 6 * ds.length ≤ 1000 →
    ∃ (F' : List Row) (s3' s4' : Sl) (n' : Int), forD (gV 3) (CHb W) ds (HE RS F s3 s4) n = some (.ok (.nx (HE RS F' s3' s4')), n') ∧ (∀ r ∈ F', Ow r) ∧ F.length + ds.length ≤ F'.length
  | [], F, s3, s4, n, hF, _ => ⟨F, s3, s4, n, rfl, hF, by simp⟩
  | d :: ds, F, s3, s4, n, hF, hl => by
    rw [List.length_cons] at hl
    obtain ⟨B, s4', n', b, b1, b2, b3⟩ := chb_run W RS hne ho F hF (by omega) d s4 n
    obtain ⟨F', t3, t4, n2, k1, k2, k3⟩ := chf_loop W RS hne ho ds (F ++ B) (.val d) s4' n' (fun r hr => by
      rcases List.mem_append.mp hr with hr | hr
      · exact hF r hr
      · exact b1 r hr) (by rw [List.length_append]; omega)
    refine ⟨F', t3, t4, n2, ?_, k2, by rw [List.length_append] at k3; rw [List.length_cons]; omega⟩
    rw [forD_cons, bind_ap, gV_ap, opt_some, bindR_ok, bind_ap]
    show bindR (CHb W (HE RS F (.val d) s4) n) _ = _
    rw [b, bindR_ok, turnK_nx, k1]
theorem cutL_to {α : Type} [PyE α] (xs : List α) (k : Nat) : dCut (encL xs) none (some (k : Int)) = some (encL (xs.take k)) := by
  have h := cut_to xs k
  unfold dCut encT at h
  simp only [Option.some.injEq, D.tup.injEq] at h
  exact congrArg (fun x => some (D.lst x)) h
theorem ldraw_ok (W : Wd) (n : Int) : ∃ (rows : List Row) (n' : Int), rows ≠ [] ∧ rows.length ≤ 9 ∧ (∀ r ∈ rows, Ow r) ∧ f__law_chart W [.drw] n = some (.ok (encL rows), n') := by
  -- two rows with groups
  obtain ⟨xs, n1, px, c, lx⟩ := compD_exP (PyE.enc : Row → D) Ow (compB [3] (gV 3) tYesD (CHr W) [.val .drw, .no, .no, .no, .no, .no]) [.int 0, .int 1] n fun d _ n => by
    obtain ⟨b, n1, hb, e1⟩ := lword_ok W 1 (by omega) [.str "a"] ys_a n
    obtain ⟨ks, n2, hk, e2⟩ := group_ok W n1
    obtain ⟨a, n3, ha, e3⟩ := lword_ok W 1 (by omega) [.str "a"] ys_a n2
    obtain ⟨g1, g2, g3⟩ := glk_ok ks hk
    refine ⟨rw3 b (gw ks) a, n3, ⟨b, gw ks, a, rfl, rowB_grp (by omega) (by unfold gw; rw [List.length_map]; omega) (by omega) (by unfold gw; simpa using g2) g3⟩, ?_⟩
    have e : (PyE.enc (rw3 b (gw ks) a) : D) = .tup [encT b, encT (gw ks), encT a] := rfl
    have one : ((1 : Nat) : Int) = 1 := rfl
    rw [one] at e1 e3
    rw [e]
    generalize encT b = B at *
    generalize encT (gw ks) = G at *
    generalize encT a = A at *
    unfold CHr
    simp [e1, e2, e3]
  have f1 : CH1 W [.val .drw, .no, .no, .no, .no, .no] n = some (.ok (.nx [.val .drw, .own (encL xs), .no, .no, .no, .no]), n1) := by
    have r : dRng1 [.int 2] = some [.int 0, .int 1] := by kernel_rfl
    have gz := gz_of (ds := xs.map (PyE.enc : Row → D)) (by rw [List.length_map, lx]; show 2 ≤ _; omega)
    have lx : encL xs = D.lst (xs.map (PyE.enc : Row → D)) := rfl
    rw [lx]
    generalize (xs.map (PyE.enc : Row → D)) = B at *
    unfold CH1
    generalize CHr W = ch at *
    rw [sOwnN_ap, bind_ap, nComp_ap, bind_ap]
    have i0 : iRng1D (eCons (eC (.int 2)) eNil) [.val .drw, .no, .no, .no, .no, .no] n = some (.ok [.int 0, .int 1], n) := by simp [r]
    rw [i0, bindR_ok, bind_ap, calm_ap, c, calmR_ok, bindR_ok, gz, opt_some, bindR_ok, pure_ap]
    rfl
  obtain ⟨w, n2, hw, ew2⟩ := lword_ok W 3 (by omega) [.str "a", .str "b"] ys_ab n1
  have lxs : xs.length = 2 := lx
  have f2 : CH2 W [.val .drw, .own (encL xs), .no, .no, .no, .no] n1 = some (.ok (.nx [.val .drw, .own (encL (xs ++ [rw3 w [] []])), .no, .no, .no, .no]), n2) := by
    have up := uApp_ok (PyE.enc (rw3 w [] [])) (xs.map PyE.enc) (by rw [List.length_map]; omega)
    have e : D.lst (xs.map PyE.enc ++ [PyE.enc (rw3 w [] [])]) = encL (xs ++ [rw3 w [] []]) := by unfold encL; rw [List.map_append]; rfl
    rw [e] at up
    replace up : uApp (.tup [encT w, .tup [], .tup []]) (encL xs) = some (encL (xs ++ [rw3 w [] []])) := up
    have ow : ∀ a b c d, ownLst 1 [.val .drw, .own (encL xs), a, b, c, d] = some () := fun _ _ _ _ => rfl
    have three : ((3 : Nat) : Int) = 3 := rfl
    rw [three] at ew2
    generalize encL (xs ++ [rw3 w [] []]) = X1 at *
    generalize encL xs = X0 at *
    generalize encT w = Z at *
    unfold CH2
    simp [ew2, up, ow]
  have f3 : CH3 [.val .drw, .own (encL (xs ++ [rw3 w [] []])), .no, .no, .no, .no] n2 = some (.ok (.nx [.val .drw, .own (encL (xs ++ [rw3 w [] []] ++ [rw3 [] [⟨.kfb, .a⟩] []])), .no, .no, .no, .no]), n2) := by
    have up := uApp_ok (PyE.enc (rw3 [] [⟨.kfb, .a⟩] [])) ((xs ++ [rw3 w [] []]).map PyE.enc) (by rw [List.length_map, List.length_append]; simp; omega)
    have e : D.lst ((xs ++ [rw3 w [] []]).map PyE.enc ++ [PyE.enc (rw3 [] [⟨.kfb, .a⟩] [])]) = encL (xs ++ [rw3 w [] []] ++ [rw3 [] [⟨.kfb, .a⟩] []]) := by unfold encL; rw [List.map_append (l₁ := xs ++ [rw3 w [] []])]; rfl
    rw [e] at up
    replace up : uApp (.tup [.tup [], .tup [.tup [.str "kfb", .str "a"]], .tup []]) (encL (xs ++ [rw3 w [] []])) = some (encL (xs ++ [rw3 w [] []] ++ [rw3 [] [⟨.kfb, .a⟩] []])) := up
    have ow : ∀ a b c d, ownLst 1 [.val .drw, .own (encL (xs ++ [rw3 w [] []])), a, b, c, d] = some () := fun _ _ _ _ => rfl
    generalize encL (xs ++ [rw3 w [] []] ++ [rw3 [] [⟨.kfb, .a⟩] []]) = X1 at *
    generalize encL (xs ++ [rw3 w [] []]) = X0 at *
    unfold CH3
    simp [up, ow]
  generalize hRS : xs ++ [rw3 w [] []] ++ [rw3 [] [⟨.kfb, .a⟩] []] = RS at *
  have oRS : ∀ r ∈ RS, Ow r := fun r hr => by
    rw [← hRS] at hr
    rcases List.mem_append.mp hr with hr | hr
    · rcases List.mem_append.mp hr with hr | hr
      · exact px r hr
      · rw [List.mem_singleton.mp hr]
        exact ⟨w, [], [], rfl, rowB_plain w (by omega)⟩
    · rw [List.mem_singleton.mp hr]
      exact ⟨[], [⟨.kfb, .a⟩], [], rfl, by decide⟩
  have nRS : RS ≠ [] := by rw [← hRS]; simp
  obtain ⟨v, v0, v1, e3⟩ := take_ok W 3 n2 (by omega)
  obtain ⟨j, rfl⟩ : ∃ j : Nat, v = (j : Int) := ⟨v.toNat, by omega⟩
  obtain ⟨F, s3, s4, n3, k1, k2, k3⟩ := chf_loop W RS nRS oRS ((List.range (1 + j)).map fun i : Nat => D.int i) [] .no .no (n2 + 1) (by simp) (by simp; omega)
  have f6 : CHf W (HE RS [] .no .no) n2 = some (.ok (.nx (HE RS F s3 s4)), n3) := by
    have r := rng1 (1 + j) (by omega)
    have cst : ((1 + j : Nat) : Int) = 1 + (j : Int) := by omega
    rw [cst] at r
    have i0 : iRng1D (eCons (e2 dAdd (eC (.int 1)) (eCall (f__law_take W) (eCons (eVar 0) (eCons (eC (.int 3)) eNil)))) eNil) (HE RS [] .no .no) n2 = some (.ok ((List.range (1 + j)).map fun i : Nat => D.int i), n2 + 1) := by
      unfold HE
      generalize ((List.range (1 + j)).map fun i : Nat => D.int i) = A at *
      generalize encL RS = R at *
      simp [e3, r]
    unfold CHf
    rw [sFor_ap, bind_ap, i0, bindR_ok, k1]
  rw [List.length_map, List.length_range] at k3
  refine ⟨F.take 9, n3, fun z => ?_, by rw [List.length_take]; omega, fun r hr => k2 r (List.mem_of_mem_take hr), ?_⟩
  · have := congrArg List.length z
    rw [List.length_take] at this
    simp at this
    simp at k3
    rw [this] at k3
    simp at k3
  · have cu := cutL_to F 9
    have nine : ((9 : Nat) : Int) = 9 := rfl
    rw [nine] at cu
    have f7 : (sRet (eCut (eVar 2) oNone (oSome (eC (.int 9))))) (HE RS F s3 s4) n3 = some (.ok (.ret (encL (F.take 9))), n3) := by
      unfold HE
      generalize encL (F.take 9) = Z at *
      generalize encL F = Y at *
      simp [cu]
    have go : CHL W [.val .drw, .no, .no, .no, .no, .no] n = some (.ok (.ret (encL (F.take 9))), n3) := seq_go f1 (seq_go f2 (seq_go f3 (seq_go (ρ1 := [.val .drw, .val (encL RS), .no, .no, .no, .no]) rfl (seq_go (ρ1 := HE RS [] .no .no) rfl (seq_go f6 f7)))))
    have sh : f__law_chart W [.drw] n = bindR (CHL W ([D.drw].map Sl.val ++ List.replicate (6 - 1) Sl.no) n) runK := by
      unfold f__law_chart
      rw [runD_ap, bind_ap, CHL_eq]
    have arg : ([D.drw].map Sl.val ++ List.replicate (6 - 1) Sl.no) = [.val .drw, .no, .no, .no, .no, .no] := rfl
    rw [sh, arg, go]
    rfl
end K47
end

section
set_option Elab.async false
set_option linter.all false
set_option autoImplicit false
set_option maxRecDepth 100000
namespace K47
open DL PySem L2 P_k47_whole_charts PyProof.Rows
/-! ### the law -/
def J0 (W : Wd) : SX := (sAsg (gV 2) (eCall (f__law_kinds) eNil))
def J1 (W : Wd) : SX := (sAsg (gV 3) (eCall (f__law_chart W) (eCons (eVar 1) eNil)))
def J2 (W : Wd) : SX := (sPar [4, 5] (eCons (eCall (f_cheapest_parts) (eCons (eVar 3) eNil)) (eCons (eCall (f__law_best) (eCons (eVar 3) (eCons (eVar 2) eNil))) eNil)))
def J3 (W : Wd) : SX := (sIf (tOrD (tNotD (tTru (eMeth 3 "shows" (f_Chart_shows) (eVar 4) (eCons (eVar 3) eNil)))) (tOrD (tB (e2 dNe (eCall (f__law_price) (eCons (e1 (dFld 3 "parts") (eVar 4)) eNil)) (e2 dIxA (eVar 5) (eB dLen (eCons (eVar 3) eNil))))) (tB (e2 dNe (eB dLen (eCons (e1 (dFld 3 "bounds") (eVar 4)) eNil)) (e2 dAdd (eB dLen (eCons (eVar 3) eNil)) (eC (.int 1))))))) (sRet (eC (.bl false))) sNx)
def J4 (W : Wd) : SX := (sIf (tOrD (tB (e2 dNe (eCall (f__law_all_rows) (eCons (e1 (dFld 3 "parts") (eVar 4)) (eCons (eC (.int 3)) eNil))) (eVar 3))) (tNotD (tTru (eB dAll (eCons (eComp [10, 11] (gT (gsC (gV 10) (gsC (gV 11) gsN))) (iZipD (eCons (e1 (dFld 3 "bounds") (eVar 4)) (eCons (eVar 5) eNil))) tYesD (e2 dLeA (eVar 10) (eVar 11))) eNil))))) (sRet (eC (.bl false))) sNx)
def J5 (W : Wd) : SX := (sAsg (gV 6) (eB dTupOf (eCons (eComp [12] (gV 12) (iOf (eVar 3)) tYesD (eTup (eCons (eC (.str "row")) (eCons (eVar 12) eNil)))) eNil)))
def J6 (W : Wd) : SX := (sIf (tB (e2 dNe (eMeth 3 "shows" (f_Chart_shows) (eMake 3 (f_Chart___init__) (eCons (eVar 6) (eCons (eVar 5) eNil))) (eCons (eVar 3) eNil)) (e2 dEq (eCall (f__law_price) (eCons (eVar 6) eNil)) (e2 dIxA (eVar 5) (eB dLen (eCons (eVar 3) eNil)))))) (sRet (eC (.bl false))) sNx)
def J7 (W : Wd) : SX := (sIf (tNotD (tTru (eMeth 3 "shows" (f_Chart_shows) (eMake 3 (f_Chart___init__) (eCons (e1 (dFld 3 "parts") (eVar 4)) (eCons (eVar 5) eNil))) (eCons (eVar 3) eNil)))) (sRet (eC (.bl false))) sNx)
def J8 (W : Wd) : SX := (sAsg (gV 7) (e2 dAdd (eC (.int 1)) (eCall (f__law_take W) (eCons (eVar 1) (eCons (eB dLen (eCons (eVar 3) eNil)) eNil)))))
def J9 (W : Wd) : SX := (sAsg (gV 8) (e2 dAdd (e2 dAdd (eCut (eVar 5) oNone (oSome (eVar 7))) (eLst (eCons (e2 dAdd (e2 dAdd (e2 dIxA (eVar 5) (eVar 7)) (eC (.int 1))) (eCall (f__law_take W) (eCons (eVar 1) (eCons (eC (.int 2)) eNil)))) eNil))) (eCut (eVar 5) (oSome (e2 dAdd (eVar 7) (eC (.int 1)))) oNone)))
def J10 (W : Wd) : SX := (sIf (tOrD (tTru (eMeth 3 "shows" (f_Chart_shows) (eMake 3 (f_Chart___init__) (eCons (e1 (dFld 3 "parts") (eVar 4)) (eCons (eVar 8) eNil))) (eCons (eVar 3) eNil))) (tOrD (tTru (eMeth 3 "shows" (f_Chart_shows) (eMake 3 (f_Chart___init__) (eCons (e1 (dFld 3 "parts") (eVar 4)) (eCons (eCut (eVar 5) (oSome (eC (.int 1))) oNone) eNil))) (eCons (eVar 3) eNil))) (tTru (eMeth 3 "shows" (f_Chart_shows) (eVar 4) (eCons (e2 dAdd (eVar 3) (eCut (eVar 3) oNone (oSome (eC (.int 1))))) eNil))))) (sRet (eC (.bl false))) sNx)
def J11 (W : Wd) : SX := (sIf (tTru (eMeth 3 "shows" (f_Chart_shows) (eMake 3 (f_Chart___init__) (eCons (eCut (e1 (dFld 3 "parts") (eVar 4)) (oSome (eC (.int 1))) oNone) (eCons (eVar 5) eNil))) (eCons (eVar 3) eNil))) (sRet (eC (.bl false))) sNx)
def J12 (W : Wd) : SX := (sIf (tOrD (tB (e2 dNe (e1 (dFld 3 "parts") (eCall (f_cheapest_parts) (eCons (eLst eNil) eNil))) (eTup eNil))) (tNotD (tTru (eMeth 3 "shows" (f_Chart_shows) (eCall (f_cheapest_parts) (eCons (eLst eNil) eNil)) (eCons (eLst eNil) eNil))))) (sRet (eC (.bl false))) sNx)
def J13b0 (W : Wd) : SX := (sTry tr2 (sSeqX (sExp (eCall (f_cheapest_parts) (eCons (eVar 9) eNil))) (sRet (eC (.bl false)))) sNx)
def J13b (W : Wd) : SX := (J13b0 W)
def J13 (W : Wd) : SX := (sFor (gV 9) (iOf (eTup (eCons (eB dTupOf (eCons (eVar 3) eNil)) (eCons (eLst (eCons (eCut (e2 dIx (eVar 3) (eC (.int 0))) oNone (oSome (eC (.int 2)))) eNil)) (eCons (e2 dMulL (eLst (eCons (eTup (eCons (eTup eNil) (eCons (eTup eNil) (eCons (eTup eNil) eNil)))) eNil)) (eC (.int 61))) (eCons (eC .non) eNil)))))) (J13b W))
def J14 (W : Wd) : SX := (sRet (eC (.bl true)))
def GG (W : Wd) : SX := (sSeq (J0 W) (sSeq (J1 W) (sSeq (J2 W) (sSeq (J3 W) (sSeq (J4 W) (sSeq (J5 W) (sSeq (J6 W) (sSeq (J7 W) (sSeq (J8 W) (sSeq (J9 W) (sSeq (J10 W) (sSeq (J11 W) (sSeq (J12 W) (sSeq (J13 W) (J14 W)))))))))))))))
theorem GG_eq (W : Wd) : g_law W = GG W := rfl

structure Rs (rows : List Row) (ps : List Part) (b : Nat → Int) : Prop where
  ne : rows ≠ []
  hl : rows.length ≤ 9
  hr : ∀ r ∈ rows, Ow r
  op : ∀ p ∈ ps, Op p
  un : ps.flatMap pun = rows
  cost : (ps.map pc).sum = b rows.length
  pl : ps.length ≤ 9
  b0 : b 0 = 0
  le : ∀ l p x, E rows l p x → b x ≤ b l + pc p
  wit : ∀ x, 1 ≤ x → x ≤ rows.length → ∃ l p, E rows l p x ∧ b x = b l + pc p
  ub : b rows.length ≤ (rows.map fun r => 1 + rc r).sum
theorem tcut (L : List D) (k : Nat) : dCut (.tup L) (some (k : Int)) none = some (.tup (L.drop k)) := by
  show some (D.tup (DL.cutD L (some (k : Int)) none)) = _
  unfold DL.cutD
  rw [HT.sIx_nat, HT.sIx_none]
  congr 2
  by_cases h : k ≤ L.length
  · rw [Nat.min_eq_left h, List.take_of_length_le (by simp)]
  · rw [Nat.min_eq_right (by omega), List.drop_eq_nil_of_le (by omega), List.drop_eq_nil_of_le (by omega)]; simp
def BB (b : Nat → Int) (n : Nat) : D := .lst ((bl b n).map D.int)
def PT (ps : List Part) : D := .tup (ps.map pD)
theorem fp (ps : List Part) (bs : List Int) : dFld 3 "parts" (chD ps bs) = some (PT ps) := fld_p _ _
theorem fb (ps : List Part) (b : Nat → Int) (n : Nat) : dFld 3 "bounds" (chD ps (bl b n)) = some (BB b n) := fld_b _ _
theorem mkc (ps : List Part) (bs : List Int) (n : Int) : f_Chart___init__ [PT ps, .lst (bs.map D.int)] n = some (.ok (chD ps bs), n) := init_ok _ _ n
theorem mkk (ps : List Part) (bs : List Int) : makeK 3 (chD ps bs) = M.pure (chD ps bs) := makeK_obj _ _ _
theorem iso (ps : List Part) (bs : List Int) : isObj 3 "shows" (chD ps bs) = true := rfl
theorem pun_len {p : Part} (h : Op p) : 1 ≤ (pun p).length := by
  cases p with
  | row r => exact Nat.le_refl 1
  | blk t rs =>
    show 1 ≤ (pw rs t).length
    rw [pw_length]
    have := Nat.mul_le_mul h.1 h.2.2.1
    omega
def b2 (b : Nat → Int) (a : Nat) (x : Int) : Nat → Int := fun j => if j = a then x else b j
theorem bl_more (b : Nat → Int) {a N : Nat} (h : a ≤ N) (x : Int) : (bl b N).take a ++ [x] ++ (bl b N).drop (a + 1) = bl (b2 b a x) N := by
  have e : (bl b N).set a x = bl (b2 b a x) N := set_range b x (N + 1) a
  rw [← e, List.set_eq_take_append_cons_drop, if_pos (by unfold bl; rw [List.length_map, List.length_range]; omega), List.append_assoc, List.singleton_append]
section
variable {rows : List Row} {ps : List Part} {b : Nat → Int} (F : Rs rows ps b) (W : Wd) (n : Int)
def Ev (rows : List Row) (ps : List Part) (b : Nat → Int) (s6 s7 s8 s9 : Sl) : DL.Env := [.val .scr, .val .drw, .val KT, .val (encL rows), .val (chD ps (bl b rows.length)), .val (BB b rows.length), s6, s7, s8, s9, .no, .no, .no]
include F
theorem okall : (List.range rows.length).all (okAt rows b) = true := by
  rw [List.all_eq_true]
  exact fun l _ => okAt_iff.mpr fun p x e => F.le l p x e
theorem told_shows : f_Chart_shows [chD ps (bl b rows.length), encL rows] n = some (.ok (.bl true), n) := by
  have := shows_ok rows F.hr (by have := F.hl; omega) ps F.op (by have := F.pl; omega) b F.un F.b0 n
  rw [okall F, Bool.true_and, decide_eq_true (by rw [F.cost]; exact Int.le_refl _)] at this
  exact this
theorem xN : dIxA (BB b rows.length) (.int (rows.length : Int)) = some (.int (b rows.length)) := ixAL_nat (bl_get b (Nat.le_refl _))
theorem j3_ok : J3 W (Ev rows ps b .no .no .no .no) n = some (.ok (.nx (Ev rows ps b .no .no .no .no)), n) := by
  have s := told_shows F n
  have f1 := fp ps (bl b rows.length)
  have f2 := fb ps b rows.length
  have o := iso ps (bl b rows.length)
  have p := price_ok ps F.op (by have := F.pl; omega) n
  rw [F.cost] at p
  replace p : f__law_price [PT ps] n = _ := p
  have x := xN F
  have l1 := dLen_L rows
  have l2 : dLen [BB b rows.length] = some (.int ((rows.length : Int) + 1)) := by
    unfold BB bl
    rw [dLen_lst, List.length_map, List.length_map, List.length_range]
    rfl
  unfold Ev
  generalize chD ps (bl b rows.length) = CH at *
  generalize BB b rows.length = B at *
  generalize PT ps = P at *
  generalize encL rows = R at *
  generalize KT = KK at *
  unfold J3
  simp [s, f1, f2, o, p, x, l1, l2]
theorem j4_ok : J4 W (Ev rows ps b .no .no .no .no) n = some (.ok (.nx (Ev rows ps b .no .no .no .no)), n) := by
  have f1 := fp ps (bl b rows.length)
  have f2 := fb ps b rows.length
  have a := allrows_ok ps F.op (by have := F.pl; omega) n
  rw [F.un] at a
  replace a : f__law_all_rows [PT ps, .int 3] n = _ := a
  have ne := dNe_L rows rows
  rw [decide_eq_true rfl] at ne
  have A : (eB dAll (eCons (eComp [10, 11] (gT (gsC (gV 10) (gsC (gV 11) gsN))) (iZipD (eCons (e1 (dFld 3 "bounds") (eVar 4)) (eCons (eVar 5) eNil))) tYesD (e2 dLeA (eVar 10) (eVar 11))) eNil)) (Ev rows ps b .no .no .no .no) n = some (.ok (.bl true), n) := by
    have c := comp_all (fun k : Int => D.tup [.int k, .int k]) (compB [10, 11] (gT (gsC (gV 10) (gsC (gV 11) gsN))) tYesD (e2 dLeA (eVar 10) (eVar 11)) (Ev rows ps b .no .no .no .no)) (fun _ => D.bl true) n (bl b rows.length) fun k _ => by
      have le : dLeA (.int k) (.int k) = some (.bl true) := by
        show some (D.bl (decide (k ≤ k))) = _
        rw [decide_eq_true (Int.le_refl k)]
      unfold Ev
      generalize chD ps (bl b rows.length) = CH at *
      generalize BB b rows.length = B at *
      generalize encL rows = R at *
      generalize KT = KK at *
      simp [le]
    have z : dZip [BB b rows.length, BB b rows.length] = some ((bl b rows.length).map fun k : Int => D.tup [.int k, .int k]) := by
      show some (zipD ((bl b rows.length).map D.int) ((bl b rows.length).map D.int)) = _
      have : ∀ xs : List D, zipD xs xs = xs.map fun d => D.tup [d, d] := fun xs => by
        induction xs with
        | nil => rfl
        | cons x xs ih =>
          show D.tup [x, x] :: zipD xs xs = _
          rw [ih, List.map_cons]
      rw [this, List.map_map]
      rfl
    have ml := mkLst_of (ds := (bl b rows.length).map fun _ => D.bl true) (by unfold bl; rw [List.length_map, List.length_map, List.length_range]; have := F.hl; omega)
    have al := all_map (fun _ : Int => true) (bl b rows.length)
    have at' : (bl b rows.length).all (fun _ => true) = true := by rw [List.all_eq_true]; exact fun _ _ => rfl
    rw [at'] at al
    unfold Ev at c ⊢
    generalize ((bl b rows.length).map fun _ => D.bl true) = B1 at *
    generalize ((bl b rows.length).map fun k : Int => D.tup [.int k, .int k]) = B2 at *
    generalize chD ps (bl b rows.length) = CH at *
    generalize BB b rows.length = B at *
    generalize encL rows = R at *
    generalize KT = KK at *
    simp [f2, z, c, ml, al]
  unfold J4
  generalize (eB dAll (eCons (eComp [10, 11] (gT (gsC (gV 10) (gsC (gV 11) gsN))) (iZipD (eCons (e1 (dFld 3 "bounds") (eVar 4)) (eCons (eVar 5) eNil))) tYesD (e2 dLeA (eVar 10) (eVar 11))) eNil)) = AA at *
  unfold Ev at A ⊢
  generalize chD ps (bl b rows.length) = CH at *
  generalize BB b rows.length = B at *
  generalize PT ps = P at *
  generalize encL rows = R at *
  generalize KT = KK at *
  simp [f1, a, ne, A]
theorem j5_ok : J5 W (Ev rows ps b .no .no .no .no) n = some (.ok (.nx (Ev rows ps b (.val (PT (rows.map Part.row))) .no .no .no)), n) := by
  have c := comp_all (PyE.enc : Row → D) (compB [12] (gV 12) tYesD (eTup (eCons (eC (.str "row")) (eCons (eVar 12) eNil))) (Ev rows ps b .no .no .no .no)) (fun r => pD (.row r)) n rows fun r _ => by
    have e : pD (.row r) = .tup [.str "row", PyE.enc r] := rfl
    rw [e]
    unfold Ev
    generalize (PyE.enc r : D) = Z at *
    generalize chD ps (bl b rows.length) = CH at *
    generalize BB b rows.length = B at *
    generalize encL rows = R at *
    generalize KT = KK at *
    simp
  have ml := mkLst_of (ds := rows.map fun r => pD (.row r)) (by rw [List.length_map]; have := F.hl; omega)
  have tp : dTupOf [.lst (rows.map fun r => pD (.row r))] = some (PT (rows.map Part.row)) := by
    unfold PT
    rw [List.map_map]
    rfl
  have it := it_L rows
  unfold Ev at c ⊢
  generalize PT (rows.map Part.row) = P at *
  generalize (rows.map fun r => pD (.row r)) = B1 at *
  generalize (rows.map (PyE.enc : Row → D)) = B2 at *
  generalize chD ps (bl b rows.length) = CH at *
  generalize BB b rows.length = B at *
  generalize encL rows = R at *
  generalize KT = KK at *
  unfold J5
  simp [it, c, ml, tp]
theorem plain_un : (rows.map Part.row).flatMap pun = rows := by
  clear F
  induction rows with
  | nil => rfl
  | cons r rs ih =>
    rw [List.map_cons, List.flatMap_cons, ih]
    rfl
theorem plain_cost : ((rows.map Part.row).map pc).sum = (rows.map fun r => 1 + rc r).sum := by
  rw [List.map_map]
  congr 1
  refine List.map_congr_left fun r _ => ?_
  show 1 + ([r].map rc).sum = _
  simp
theorem j6_ok : J6 W (Ev rows ps b (.val (PT (rows.map Part.row))) .no .no .no) n = some (.ok (.nx (Ev rows ps b (.val (PT (rows.map Part.row))) .no .no .no)), n) := by
  have op : ∀ p ∈ rows.map Part.row, Op p := fun p hp => by
    obtain ⟨r, hr, rfl⟩ := List.mem_map.mp hp
    exact F.hr r hr
  have pl : (rows.map Part.row).length ≤ 1000 := by rw [List.length_map]; have := F.hl; omega
  have s := shows_ok rows F.hr (by have := F.hl; omega) (rows.map Part.row) op pl b (plain_un F) F.b0 n
  rw [okall F, Bool.true_and] at s
  have p := price_ok (rows.map Part.row) op pl n
  replace p : f__law_price [PT (rows.map Part.row)] n = _ := p
  have x := xN F
  have l1 := dLen_L rows
  have i := mkc (rows.map Part.row) (bl b rows.length) n
  replace i : f_Chart___init__ [PT (rows.map Part.row), BB b rows.length] n = _ := i
  have k := mkk (rows.map Part.row) (bl b rows.length)
  have o := iso (rows.map Part.row) (bl b rows.length)
  have ub := F.ub
  rw [← plain_cost F] at ub
  have q : decide (((rows.map Part.row).map pc).sum ≤ b rows.length) = decide (((rows.map Part.row).map pc).sum = b rows.length) := decide_eq_decide.mpr (by omega)
  rw [q] at s
  have eq := dEq_int ((rows.map Part.row).map pc).sum (b rows.length)
  generalize decide (((rows.map Part.row).map pc).sum = b rows.length) = dd at *
  unfold Ev
  generalize chD ps (bl b rows.length) = CH at *
  generalize chD (rows.map Part.row) (bl b rows.length) = CH2 at *
  generalize ((rows.map Part.row).map pc).sum = SS at *
  generalize BB b rows.length = B at *
  generalize PT (rows.map Part.row) = P at *
  generalize encL rows = R at *
  generalize KT = KK at *
  unfold J6
  simp [s, p, x, l1, i, k, o, eq]
theorem j7_ok (s6 : Sl) : J7 W (Ev rows ps b s6 .no .no .no) n = some (.ok (.nx (Ev rows ps b s6 .no .no .no)), n) := by
  have s := told_shows F n
  have f1 := fp ps (bl b rows.length)
  have i := mkc ps (bl b rows.length) n
  replace i : f_Chart___init__ [PT ps, BB b rows.length] n = _ := i
  have k := mkk ps (bl b rows.length)
  have o := iso ps (bl b rows.length)
  unfold Ev
  generalize chD ps (bl b rows.length) = CH at *
  generalize BB b rows.length = B at *
  generalize PT ps = P at *
  generalize encL rows = R at *
  generalize KT = KK at *
  unfold J7
  simp [s, f1, i, k, o]
theorem j8_ok (s6 : Sl) : ∃ a : Nat, 1 ≤ a ∧ a ≤ rows.length ∧ J8 W (Ev rows ps b s6 .no .no .no) n = some (.ok (.nx (Ev rows ps b s6 (.val (.int a)) .no .no)), n + 1) := by
  have hl := List.length_pos_iff.mpr F.ne
  obtain ⟨v, v0, v1, e⟩ := take_ok W rows.length n (by omega)
  obtain ⟨j, rfl⟩ : ∃ j : Nat, v = (j : Int) := ⟨v.toNat, by omega⟩
  refine ⟨1 + j, by omega, by omega, ?_⟩
  have c : ((1 + j : Nat) : Int) = 1 + (j : Int) := by omega
  have l1 := dLen_L rows
  rw [c]
  unfold Ev
  generalize chD ps (bl b rows.length) = CH at *
  generalize BB b rows.length = B at *
  generalize encL rows = R at *
  generalize KT = KK at *
  unfold J8
  simp [e, l1]
theorem j9_ok (s6 : Sl) (a : Nat) (ha : a ≤ rows.length) : ∃ x : Int, b a < x ∧ J9 W (Ev rows ps b s6 (.val (.int a)) .no .no) n = some (.ok (.nx (Ev rows ps b s6 (.val (.int a)) (.val (BB (b2 b a x) rows.length)) .no)), n + 1) := by
  obtain ⟨u, u0, u1, e⟩ := take_ok W 2 n (by omega)
  refine ⟨b a + 1 + u, by omega, ?_⟩
  have lb : (bl b rows.length).length ≤ 10 := by unfold bl; rw [List.length_map, List.length_range]; have := F.hl; omega
  have c1 : dCut (BB b rows.length) none (some (a : Int)) = some (encL ((bl b rows.length).take a)) := cutL_to (bl b rows.length) a
  have c2 : dCut (BB b rows.length) (some ((a : Int) + 1)) none = some (encL ((bl b rows.length).drop (a + 1))) := cutL_from (bl b rows.length) (a + 1)
  have x := ixAL_nat (bl_get b ha)
  replace x : dIxA (BB b rows.length) (.int (a : Int)) = some (.int (b a)) := x
  have a1 : dAdd (encL ((bl b rows.length).take a)) (.lst [.int (b a + 1 + u)]) = some (encL ((bl b rows.length).take a ++ [b a + 1 + u])) := by
    unfold encL
    rw [List.map_append]
    exact mkLst_of (by rw [List.length_append, List.length_map, List.length_take]; simp; omega)
  have a2 : dAdd (encL ((bl b rows.length).take a ++ [b a + 1 + u])) (encL ((bl b rows.length).drop (a + 1))) = some (BB (b2 b a (b a + 1 + u)) rows.length) := by
    show _ = some (D.lst _)
    rw [← bl_more b ha]
    unfold encL
    rw [List.map_append (l₁ := (bl b rows.length).take a ++ [b a + 1 + u])]
    exact mkLst_of (by rw [List.length_append, List.length_map, List.length_map, List.length_append, List.length_take, List.length_drop]; simp; omega)
  unfold Ev
  generalize BB (b2 b a (b a + 1 + u)) rows.length = B2 at *
  generalize encL ((bl b rows.length).take a ++ [b a + 1 + u]) = X1 at *
  generalize encL ((bl b rows.length).take a) = X0 at *
  generalize encL ((bl b rows.length).drop (a + 1)) = X2 at *
  generalize chD ps (bl b rows.length) = CH at *
  generalize BB b rows.length = B at *
  generalize encL rows = R at *
  generalize KT = KK at *
  unfold J9
  simp [e, c1, c2, x, a1, a2]
theorem j10_ok (s6 : Sl) (a : Nat) (ha : a ≤ rows.length) (ha1 : 1 ≤ a) (x : Int) (hx : b a < x) (s7 : Sl) : J10 W (Ev rows ps b s6 s7 (.val (BB (b2 b a x) rows.length)) .no) n = some (.ok (.nx (Ev rows ps b s6 s7 (.val (BB (b2 b a x) rows.length)) .no)), n) := by
  have hl := F.hl
  have pl := F.pl
  have f1 := fp ps (bl b rows.length)
  -- a number too high
  have i1 := mkc ps (bl (b2 b a x) rows.length) n
  replace i1 : f_Chart___init__ [PT ps, BB (b2 b a x) rows.length] n = _ := i1
  have k1 := mkk ps (bl (b2 b a x) rows.length)
  have o1 := iso ps (bl (b2 b a x) rows.length)
  have s1 := shows_ok rows F.hr (by omega) ps F.op (by omega) (b2 b a x) F.un (by unfold b2; rw [if_neg (by omega)]; exact F.b0) n
  obtain ⟨l, p, e, w⟩ := F.wit a ha1 ha
  have al : (List.range rows.length).all (okAt rows (b2 b a x)) = false := by
    rw [Bool.eq_false_iff]
    intro z
    rw [List.all_eq_true] at z
    have lt := e.lt
    have := okAt_iff.mp (z l (List.mem_range.mpr (by omega))) p a e
    unfold b2 at this
    rw [if_pos rfl, if_neg (by omega)] at this
    omega
  rw [al, Bool.false_and] at s1
  -- too few numbers
  have c2 : dCut (BB b rows.length) (some 1) none = some (encL ((bl b rows.length).drop 1)) := cutL_from (bl b rows.length) 1
  have i2 := mkc ps ((bl b rows.length).drop 1) n
  replace i2 : f_Chart___init__ [PT ps, encL ((bl b rows.length).drop 1)] n = _ := i2
  have k2 := mkk ps ((bl b rows.length).drop 1)
  have o2 := iso ps ((bl b rows.length).drop 1)
  have s2 := shows_no rows F.hr (by omega) ps F.op (by omega) ((bl b rows.length).drop 1) (.inr (by unfold bl; rw [List.length_drop, List.length_map, List.length_range]; omega)) n
  -- another chart
  have hpos := List.length_pos_iff.mpr F.ne
  have c3 := cutL_to rows 1
  have one : ((1 : Nat) : Int) = 1 := rfl
  rw [one] at c3
  have a3 : dAdd (encL rows) (encL (rows.take 1)) = some (encL (rows ++ rows.take 1)) := by
    unfold encL
    rw [List.map_append]
    exact mkLst_of (by rw [List.length_append, List.length_map, List.length_map, List.length_take]; omega)
  have o3 := iso ps (bl b rows.length)
  have s3 := shows_no (rows ++ rows.take 1) (fun r hr => by
    rcases List.mem_append.mp hr with hr | hr
    · exact F.hr r hr
    · exact F.hr r (List.mem_of_mem_take hr)) (by rw [List.length_append, List.length_take]; omega) ps F.op (by omega) (bl b rows.length) (.inl (by
    rw [F.un]
    intro z
    have := congrArg List.length z
    rw [List.length_append, List.length_take] at this
    omega)) n
  unfold Ev
  generalize chD ps (bl (b2 b a x) rows.length) = CH1 at *
  generalize chD ps ((bl b rows.length).drop 1) = CH2 at *
  generalize chD ps (bl b rows.length) = CH at *
  generalize encL ((bl b rows.length).drop 1) = X1 at *
  generalize BB (b2 b a x) rows.length = B2 at *
  generalize BB b rows.length = B at *
  generalize encL (rows ++ rows.take 1) = R2 at *
  generalize encL (rows.take 1) = R1 at *
  generalize encL rows = R at *
  generalize PT ps = P at *
  generalize KT = KK at *
  unfold J10
  simp [f1, i1, k1, o1, s1, c2, i2, k2, o2, s2, c3, a3, o3, s3]
theorem j11_ok (s6 s7 s8 : Sl) : J11 W (Ev rows ps b s6 s7 s8 .no) n = some (.ok (.nx (Ev rows ps b s6 s7 s8 .no)), n) := by
  have hl := F.hl
  have pl := F.pl
  have f1 := fp ps (bl b rows.length)
  have c : dCut (PT ps) (some 1) none = some (PT (ps.drop 1)) := by
    have := tcut (ps.map pD) 1
    rw [← List.map_drop] at this
    exact this
  have i := mkc (ps.drop 1) (bl b rows.length) n
  replace i : f_Chart___init__ [PT (ps.drop 1), BB b rows.length] n = _ := i
  have k := mkk (ps.drop 1) (bl b rows.length)
  have o := iso (ps.drop 1) (bl b rows.length)
  have s := shows_no rows F.hr (by omega) (ps.drop 1) (fun p hp => F.op p (List.mem_of_mem_drop hp)) (by rw [List.length_drop]; omega) (bl b rows.length) (.inl (fun z => by
    cases hps : ps with
    | nil =>
      have := F.un
      rw [hps] at this
      exact F.ne this.symm
    | cons p qs =>
      rw [hps] at z
      have u := F.un
      rw [hps, List.flatMap_cons] at u
      have z : qs.flatMap pun = rows := z
      rw [z] at u
      have := congrArg List.length u
      rw [List.length_append] at this
      have := pun_len (F.op p (by rw [hps]; exact List.mem_cons_self))
      omega)) n
  unfold Ev
  generalize chD (ps.drop 1) (bl b rows.length) = CH1 at *
  generalize chD ps (bl b rows.length) = CH at *
  generalize PT (ps.drop 1) = P1 at *
  generalize PT ps = P at *
  generalize BB b rows.length = B at *
  generalize encL rows = R at *
  generalize KT = KK at *
  unfold J11
  simp [f1, c, i, k, o, s]
theorem j12_ok (s6 s7 s8 : Sl) : J12 W (Ev rows ps b s6 s7 s8 .no) n = some (.ok (.nx (Ev rows ps b s6 s7 s8 .no)), n) := by
  obtain ⟨c, b', qs, g, I, hb, hc, e⟩ := cheap_ok [] (by simp) (by simp) n
  obtain ⟨g1, g2, g3, g4⟩ := g.g _ _ _ hc
  have qe : qs = [] := List.length_eq_zero_iff.mp (by simpa using g4)
  subst qe
  have b0 : b' 0 = 0 := by
    have := hb 0 (by simp)
    rw [I.z] at this
    exact (Option.some.inj this).symm
  have s := shows_ok [] (by simp) (by simp) [] (by simp) (by simp) b' rfl b0 n
  have t : ((List.range ([] : List Row).length).all (okAt [] b') && decide ((([] : List Part).map pc).sum ≤ b' ([] : List Row).length)) = true := by
    show (true && decide ((0 : Int) ≤ b' 0)) = true
    rw [b0]
    rfl
  rw [t] at s
  have f1 := fp [] (bl b' ([] : List Row).length)
  have o := iso [] (bl b' ([] : List Row).length)
  have nn : dNe (PT []) (.tup []) = some (.bl false) := by kernel_rfl
  have nl : encL ([] : List Row) = .lst [] := rfl
  rw [nl] at e s
  unfold Ev
  generalize chD [] (bl b' ([] : List Row).length) = CH1 at *
  generalize chD ps (bl b rows.length) = CH at *
  generalize PT [] = P1 at *
  generalize BB b rows.length = B at *
  generalize encL rows = R at *
  generalize KT = KK at *
  unfold J12
  simp [e, s, f1, o, nn]
end
end K47
end

section
set_option Elab.async false
set_option linter.all false
set_option autoImplicit false
set_option maxRecDepth 100000
namespace K47
open DL PySem L2 P_k47_whole_charts PyProof.Rows
/-! ### what is refused -/
def Bad (d : D) : Prop := ∀ n, f_check_chart [d] n = some (.error ⟨2, [], []⟩, n)
theorem bad_ok {d : D} (h : Bad d) (n : Int) : f_cheapest_parts [d] n = some (.error ⟨2, [], []⟩, n) := by
  have ck := h n
  have g0 : CP0 [.val d, .no, .no, .no, .no, .no, .no, .no] n = some (.error ⟨2, [], []⟩, n) := by
    unfold CP0
    simp [ck]
  have go : CPL [.val d, .no, .no, .no, .no, .no, .no, .no] n = some (.error ⟨2, [], []⟩, n) := by
    unfold CPL
    rw [sSeq_ap, bind_ap, g0, bindR_err]
  show bindR (CPL [.val d, .no, .no, .no, .no, .no, .no, .no] n) runK = _
  rw [go]
  rfl
theorem bad_nl {d : D} (h : dIsi "list" d = some (.bl false)) : Bad d := fun n => by
  simp only [f_check_chart, g_check_chart]
  simp [h]
  rfl
theorem bad_long (L : List D) (h : 60 < L.length) : Bad (.lst L) := fun n => by
  have i1 : dIsi "list" (.lst L) = some (.bl true) := rfl
  have l : dLen [.lst L] = some (.int L.length) := rfl
  have c : (60 : Int) < L.length := by omega
  generalize D.lst L = Z at *
  generalize (L.length : Int) = LL at *
  simp only [f_check_chart, g_check_chart]
  simp [i1, l, c]
  rfl
theorem bad_one {d : D} (h : ∀ n, f_is_row [d] n = some (.ok (.bl false), n)) : Bad (.lst [d]) := fun n => by
  have i1 : dIsi "list" (.lst [d]) = some (.bl true) := rfl
  have l : dLen [.lst [d]] = some (.int 1) := rfl
  have it : dItems (.lst [d]) = some [d] := rfl
  have al : dAll [.lst [.bl false]] = some (.bl false) := rfl
  have k := h n
  generalize D.lst [d] = Z at *
  simp only [f_check_chart, g_check_chart]
  simp [i1, l, it, compD_cons, compD_nil, k, al]
  rfl
theorem is_bad2 (X Y : D) (n : Int) : f_is_row [.tup [X, Y]] n = some (.ok (.bl false), n) := by
  have i1 : dIsi "tuple" (.tup [X, Y]) = some (.bl true) := rfl
  have l : dLen [.tup [X, Y]] = some (.int 2) := rfl
  generalize D.tup [X, Y] = Z at *
  simp only [f_is_row, g_is_row]
  simp [i1, l]
section
variable {rows : List Row} {ps : List Part} {b : Nat → Int} (F : Rs rows ps b) (W : Wd) (n : Int)
theorem try_ok (s6 s7 s8 : Sl) {d : D} (h : Bad d) : J13b W (Ev rows ps b s6 s7 s8 (.val d)) n = some (.ok (.nx (Ev rows ps b s6 s7 s8 (.val d))), n) := by
  have bd := bad_ok h n
  have g : (sSeqX (sExp (eCall (f_cheapest_parts) (eCons (eVar 9) eNil))) (sRet (eC (.bl false)))) (Ev rows ps b s6 s7 s8 (.val d)) n = some (.error ⟨2, [], []⟩, n) := by
    have v : eVar 9 (Ev rows ps b s6 s7 s8 (.val d)) n = some (.ok d, n) := rfl
    have x : sExp (eCall (f_cheapest_parts) (eCons (eVar 9) eNil)) (Ev rows ps b s6 s7 s8 (.val d)) n = some (.error ⟨2, [], []⟩, n) := by
      rw [sExp_ap, bind_ap, eCall_ap, bind_ap, eCons_ap, bind_ap, v]
      simp [bd]
    unfold sSeqX
    rw [bind_ap, x, bindR_err]
  show sTry tr2 _ sNx _ n = _
  unfold sTry
  rw [g]
  rfl
include F
theorem j13_ok (s6 s7 s8 : Sl) : ∃ s9, J13 W (Ev rows ps b s6 s7 s8 .no) n = some (.ok (.nx (Ev rows ps b s6 s7 s8 s9)), n) := by
  obtain ⟨r0, rs, hrs⟩ := List.exists_cons_of_ne_nil F.ne
  obtain ⟨b0, g0, a0, hr0, _⟩ := F.hr r0 (by rw [hrs]; exact List.mem_cons_self)
  have x0 : dIx (encL rows) (.int 0) = some (PyE.enc r0) := by
    rw [hrs]
    exact ixL_nat (j := 0) (xs := (r0 :: rs).map PyE.enc) rfl
  have ct : dCut (PyE.enc r0 : D) none (some 2) = some (.tup [encT b0, encT g0]) := by
    rw [hr0]
    exact cut_to (α := Word) [b0, g0, a0] 2
  have mu := dMulL_ok (xs := [D.tup [.tup [], .tup [], .tup []]]) (k := 61) (by omega) (by simp)
  have k61 : ((61 : Nat) : Int) = 61 := rfl
  rw [k61] at mu
  have tp : dTupOf [encL rows] = some (encT rows) := rfl
  have b1 : Bad (encT rows) := bad_nl rfl
  have b2 : Bad (.lst [.tup [encT b0, encT g0]]) := bad_one (is_bad2 _ _)
  have b3 : Bad (.lst (pw [D.tup [.tup [], .tup [], .tup []]] 61)) := bad_long _ (by rw [pw_length]; simp)
  have b4 : Bad .non := bad_nl rfl
  have it : (iOf (eTup (eCons (eB dTupOf (eCons (eVar 3) eNil)) (eCons (eLst (eCons (eCut (e2 dIx (eVar 3) (eC (.int 0))) oNone (oSome (eC (.int 2)))) eNil)) (eCons (e2 dMulL (eLst (eCons (eTup (eCons (eTup eNil) (eCons (eTup eNil) (eCons (eTup eNil) eNil)))) eNil)) (eC (.int 61))) (eCons (eC .non) eNil)))))) (Ev rows ps b s6 s7 s8 .no) n = some (.ok [encT rows, .lst [.tup [encT b0, encT g0]], .lst (pw [D.tup [.tup [], .tup [], .tup []]] 61), .non], n) := by
    unfold Ev
    generalize pw [D.tup [.tup [], .tup [], .tup []]] 61 = P61 at *
    generalize encT rows = T at *
    generalize (PyE.enc r0 : D) = Z at *
    generalize encT b0 = X at *
    generalize encT g0 = Y at *
    generalize chD ps (bl b rows.length) = CH at *
    generalize BB b rows.length = B at *
    generalize encL rows = R at *
    generalize KT = KK at *
    simp [x0, ct, mu, tp]
  have st : ∀ (s9 : Sl) (d : D) (ds : List D), Bad d → forD (gV 9) (J13b W) (d :: ds) (Ev rows ps b s6 s7 s8 s9) n = forD (gV 9) (J13b W) ds (Ev rows ps b s6 s7 s8 (.val d)) n := fun s9 d ds h => by
    have t := try_ok (rows := rows) (ps := ps) (b := b) W n s6 s7 s8 h
    have t : J13b W ((Ev rows ps b s6 s7 s8 s9).set 9 (.val d)) n = some (.ok (.nx (Ev rows ps b s6 s7 s8 (.val d))), n) := t
    rw [forD_cons, bind_ap, gV_ap, opt_some, bindR_ok, bind_ap, t, bindR_ok, turnK_nx]
  refine ⟨.val .non, ?_⟩
  unfold J13
  rw [sFor_ap, bind_ap, it, bindR_ok, st _ _ _ b1, st _ _ _ b2, st _ _ _ b3, st _ _ _ b4, forD_nil]
end
theorem rs_of {rows : List Row} (hne : rows ≠ []) (hl : rows.length ≤ 9) (hr : ∀ r ∈ rows, Ow r) {c : Cl} {b : Nat → Int} {ps : List Part} (g : Gd rows c) (I : Inv (PE0 rows rows.length) (sof c)) (hb : ∀ j, j ≤ rows.length → sof c j = some (b j)) (hc : c rows.length = some (b rows.length, ps)) : Rs rows ps b := by
  obtain ⟨g1, g2, g3, g4⟩ := g.g _ _ _ hc
  refine ⟨hne, hl, hr, g1, by rw [g2, List.take_length], g3, by omega, ?_, ?_, ?_, ?_⟩
  · have := hb 0 (by omega)
    rw [I.z] at this
    exact (Option.some.inj this).symm
  · intro l p x e
    have lt := e.lt
    obtain ⟨u, v, k1, k2, k3⟩ := I.le l x (pc p) ⟨by omega, p, e, rfl⟩
    rw [hb x lt.2] at k1
    rw [hb l (by omega)] at k2
    have := Option.some.inj k1
    have := Option.some.inj k2
    omega
  · intro x h1 h2
    rcases I.wit x (b x) (hb x h2) with k | ⟨l, c', v, k1, k2, k3⟩
    · omega
    · obtain ⟨l1, p, e, rfl⟩ := k1
      rw [hb l (by omega)] at k2
      have := Option.some.inj k2
      exact ⟨l, p, e, by omega⟩
  · obtain ⟨v, k1, k2, _⟩ := inv_at I (fun _ _ _ z => z) hr rows.length (Nat.le_refl _) (Nat.le_refl _)
    rw [hb _ (Nat.le_refl _)] at k1
    have := Option.some.inj k1
    rw [List.take_length] at k2
    omega
theorem good (W : Wd) : ∃ n', g_law W (.val .scr :: .val .drw :: List.replicate (N_law.length - 2) Sl.no) 0 = some (.ok (.ret (.bl true)), n') := by
  have k := kinds_ok 0
  have g0 : J0 W (.val .scr :: .val .drw :: List.replicate (N_law.length - 2) Sl.no) 0 = some (.ok (.nx [.val .scr, .val .drw, .val KT, .no, .no, .no, .no, .no, .no, .no, .no, .no, .no]), 0) := by
    generalize KT = X at *
    unfold J0
    rw [sAsg_ap, bind_ap, eCall_ap, bind_ap, eNil_ap, bindR_ok, k, bindR_ok]
    rfl
  obtain ⟨rows, n1, hne, hl, hr, ed⟩ := ldraw_ok W 0
  have g1 : J1 W [.val .scr, .val .drw, .val KT, .no, .no, .no, .no, .no, .no, .no, .no, .no, .no] 0 = some (.ok (.nx [.val .scr, .val .drw, .val KT, .val (encL rows), .no, .no, .no, .no, .no, .no, .no, .no, .no]), n1) := by
    generalize encL rows = R at *
    generalize KT = X at *
    unfold J1
    simp [ed]
  obtain ⟨c, b, ps, g, I, hb, hc, ec⟩ := cheap_ok rows hr (by omega) n1
  obtain ⟨s, I2, eb⟩ := best_ok rows hr (by omega) n1
  have F := rs_of hne hl hr g I hb hc
  have tot : ∀ j, j ≤ rows.length → (s j).isSome := fun j hj => by
    obtain ⟨v, h, _⟩ := inv_at I2 (fun _ _ _ z => z) hr j hj hj
    rw [h]; rfl
  have same := I.uniq I2 (fun l h c q => (PE0.lt _ _ _ q).1) (fun j hj => by rw [hb j hj]; rfl) tot
  have lb : D.lst (lw s rows.length) = BB b rows.length := by
    unfold BB bl lw
    rw [List.map_map]
    congr 1
    refine List.map_congr_left fun j hj => ?_
    have hj := List.mem_range.mp hj
    rw [← same j (by omega), hb j (by omega)]
    rfl
  rw [lb] at eb
  have g2 : J2 W [.val .scr, .val .drw, .val KT, .val (encL rows), .no, .no, .no, .no, .no, .no, .no, .no, .no] n1 = some (.ok (.nx (Ev rows ps b .no .no .no .no)), n1) := by
    unfold Ev
    generalize chD ps (bl b rows.length) = CH at *
    generalize BB b rows.length = B at *
    generalize encL rows = R at *
    generalize KT = X at *
    unfold J2
    simp [ec, eb]
  have g3 := j3_ok F W n1
  have g4 := j4_ok F W n1
  have g5 := j5_ok F W n1
  have g6 := j6_ok F W n1
  have g7 := j7_ok F W n1 (.val (PT (rows.map Part.row)))
  obtain ⟨a, a1, a2, g8⟩ := j8_ok F W n1 (.val (PT (rows.map Part.row)))
  obtain ⟨x, hx, g9⟩ := j9_ok F W (n1 + 1) (.val (PT (rows.map Part.row))) a a2
  have g10 := j10_ok F W (n1 + 1 + 1) (.val (PT (rows.map Part.row))) a a2 a1 x hx (.val (.int a))
  have g11 := j11_ok F W (n1 + 1 + 1) (.val (PT (rows.map Part.row))) (.val (.int a)) (.val (BB (b2 b a x) rows.length))
  have g12 := j12_ok F W (n1 + 1 + 1) (.val (PT (rows.map Part.row))) (.val (.int a)) (.val (BB (b2 b a x) rows.length))
  obtain ⟨s9, g13⟩ := j13_ok F W (n1 + 1 + 1) (.val (PT (rows.map Part.row))) (.val (.int a)) (.val (BB (b2 b a x) rows.length))
  refine ⟨n1 + 1 + 1, ?_⟩
  rw [GG_eq]
  exact seq_go g0 (seq_go g1 (seq_go g2 (seq_go g3 (seq_go g4 (seq_go g5 (seq_go g6 (seq_go g7 (seq_go g8 (seq_go g9 (seq_go g10 (seq_go g11 (seq_go g12 (seq_go g13 rfl)))))))))))))
end K47
end

section
set_option Elab.async false
set_option linter.all false
set_option autoImplicit false
set_option maxRecDepth 100000
set_option maxHeartbeats 4000000
/-! printed by gen.py -/
namespace P_k47_whole_charts
open PySem PySem.Spec L2 DL
open PyProof.Rows (envOfC)
theorem all_mk {l : PySem.W.OpenLaw} {w : World} {K : PySem.W.Frag} {h : Heap} {mg : Str → Option Value} {fa : Addr} (X : K.In h) (G : h.Ns mainGlobals mg) (hfa : mg "law" = some (.ref fa))
    {C0 : Addr}
    {C1 : Addr}
    {C2 : Addr}
    {C3 : Addr}
    {t_MOST : Tok}
    {t_MOST_BASE : Tok}
    {t_MOST_CELLS : Tok}
    {t_MOST_CHANGE : Tok}
    {t_MOST_CHART : Tok}
    {t_MOST_REST : Tok}
    {t_MOST_RISE : Tok}
    {t_MOST_ROWS : Tok}
    {aT_KINDS : Addr}
    {a_Chart___init__ : Addr} {od_Chart___init__ an_Chart___init__ : Option Addr} {sl_Chart___init__ : Array (Option Value)} {oc_Chart___init__ kV_Chart___init__ dc_Chart___init__ pm_Chart___init__ cd_Chart___init__ ct_Chart___init__ : Value}
    {a_is_kind : Addr} {od_is_kind an_is_kind : Option Addr} {sl_is_kind : Array (Option Value)} {oc_is_kind kV_is_kind dc_is_kind pm_is_kind cd_is_kind ct_is_kind : Value}
    {a_is_yarn : Addr} {od_is_yarn an_is_yarn : Option Addr} {sl_is_yarn : Array (Option Value)} {oc_is_yarn kV_is_yarn dc_is_yarn pm_is_yarn cd_is_yarn ct_is_yarn : Value}
    {a_is_cell : Addr} {od_is_cell an_is_cell : Option Addr} {sl_is_cell : Array (Option Value)} {oc_is_cell kV_is_cell dc_is_cell pm_is_cell cd_is_cell ct_is_cell : Value}
    {a_is_word : Addr} {od_is_word an_is_word : Option Addr} {sl_is_word : Array (Option Value)} {oc_is_word kV_is_word dc_is_word pm_is_word cd_is_word ct_is_word : Value}
    {a_takes : Addr} {od_takes an_takes : Option Addr} {sl_takes : Array (Option Value)} {oc_takes kV_takes dc_takes pm_takes cd_takes ct_takes : Value}
    {a_is_row : Addr} {od_is_row an_is_row : Option Addr} {sl_is_row : Array (Option Value)} {oc_is_row kV_is_row dc_is_row pm_is_row cd_is_row ct_is_row : Value}
    {a_check_chart : Addr} {od_check_chart an_check_chart : Option Addr} {sl_check_chart : Array (Option Value)} {oc_check_chart kV_check_chart dc_check_chart pm_check_chart cd_check_chart ct_check_chart : Value}
    {a_makes : Addr} {od_makes an_makes : Option Addr} {sl_makes : Array (Option Value)} {oc_makes kV_makes dc_makes pm_makes cd_makes ct_makes : Value}
    {a_is_even : Addr} {od_is_even an_is_even : Option Addr} {sl_is_even : Array (Option Value)} {oc_is_even kV_is_even dc_is_even pm_is_even cd_is_even ct_is_even : Value}
    {a_is_number : Addr} {od_is_number an_is_number : Option Addr} {sl_is_number : Array (Option Value)} {oc_is_number kV_is_number dc_is_number pm_is_number cd_is_number ct_is_number : Value}
    {a_is_line : Addr} {od_is_line an_is_line : Option Addr} {sl_is_line : Array (Option Value)} {oc_is_line kV_is_line dc_is_line pm_is_line cd_is_line ct_is_line : Value}
    {a_change_of : Addr} {od_change_of an_change_of : Option Addr} {sl_change_of : Array (Option Value)} {oc_change_of kV_change_of dc_change_of pm_change_of cd_change_of ct_change_of : Value}
    {a_round_change : Addr} {od_round_change an_round_change : Option Addr} {sl_round_change : Array (Option Value)} {oc_round_change kV_round_change dc_round_change pm_round_change cd_round_change ct_round_change : Value}
    {a_is_part : Addr} {od_is_part an_is_part : Option Addr} {sl_is_part : Array (Option Value)} {oc_is_part kV_is_part dc_is_part pm_is_part cd_is_part ct_is_part : Value}
    {a_is_constant : Addr} {od_is_constant an_is_constant : Option Addr} {sl_is_constant : Array (Option Value)} {oc_is_constant kV_is_constant dc_is_constant pm_is_constant cd_is_constant ct_is_constant : Value}
    {a_periods : Addr} {od_periods an_periods : Option Addr} {sl_periods : Array (Option Value)} {oc_periods kV_periods dc_periods pm_periods cd_periods ct_periods : Value}
    {a_repeat_cost : Addr} {od_repeat_cost an_repeat_cost : Option Addr} {sl_repeat_cost : Array (Option Value)} {oc_repeat_cost kV_repeat_cost dc_repeat_cost pm_repeat_cost cd_repeat_cost ct_repeat_cost : Value}
    {a_ways_below : Addr} {od_ways_below an_ways_below : Option Addr} {sl_ways_below : Array (Option Value)} {oc_ways_below kV_ways_below dc_ways_below pm_ways_below cd_ways_below ct_ways_below : Value}
    {a__filled : Addr} {od__filled an__filled : Option Addr} {sl__filled : Array (Option Value)} {oc__filled kV__filled dc__filled pm__filled cd__filled ct__filled : Value}
    {a_check_short : Addr} {od_check_short an_check_short : Option Addr} {sl_check_short : Array (Option Value)} {oc_check_short kV_check_short dc_check_short pm_check_short cd_check_short ct_check_short : Value}
    {a_least_cost : Addr} {od_least_cost an_least_cost : Option Addr} {sl_least_cost : Array (Option Value)} {oc_least_cost kV_least_cost dc_least_cost pm_least_cost cd_least_cost ct_least_cost : Value}
    {a_row_cost : Addr} {od_row_cost an_row_cost : Option Addr} {sl_row_cost : Array (Option Value)} {oc_row_cost kV_row_cost dc_row_cost pm_row_cost cd_row_cost ct_row_cost : Value}
    {a_rows_of : Addr} {od_rows_of an_rows_of : Option Addr} {sl_rows_of : Array (Option Value)} {oc_rows_of kV_rows_of dc_rows_of pm_rows_of cd_rows_of ct_rows_of : Value}
    {a_part_cost : Addr} {od_part_cost an_part_cost : Option Addr} {sl_part_cost : Array (Option Value)} {oc_part_cost kV_part_cost dc_part_cost pm_part_cost cd_part_cost ct_part_cost : Value}
    {a_parts_from : Addr} {od_parts_from an_parts_from : Option Addr} {sl_parts_from : Array (Option Value)} {oc_parts_from kV_parts_from dc_parts_from pm_parts_from cd_parts_from ct_parts_from : Value}
    {a_unrolled : Addr} {od_unrolled an_unrolled : Option Addr} {sl_unrolled : Array (Option Value)} {oc_unrolled kV_unrolled dc_unrolled pm_unrolled cd_unrolled ct_unrolled : Value}
    {a_Chart_shows : Addr} {od_Chart_shows an_Chart_shows : Option Addr} {sl_Chart_shows : Array (Option Value)} {oc_Chart_shows kV_Chart_shows dc_Chart_shows pm_Chart_shows cd_Chart_shows ct_Chart_shows : Value}
    {a__law_all_rows : Addr} {od__law_all_rows an__law_all_rows : Option Addr} {sl__law_all_rows : Array (Option Value)} {oc__law_all_rows kV__law_all_rows dc__law_all_rows pm__law_all_rows cd__law_all_rows ct__law_all_rows : Value}
    {a__law_makes : Addr} {od__law_makes an__law_makes : Option Addr} {sl__law_makes : Array (Option Value)} {oc__law_makes kV__law_makes dc__law_makes pm__law_makes cd__law_makes ct__law_makes : Value}
    {a__law_takes : Addr} {od__law_takes an__law_takes : Option Addr} {sl__law_takes : Array (Option Value)} {oc__law_takes kV__law_takes dc__law_takes pm__law_takes cd__law_takes ct__law_takes : Value}
    {a__law_blocks : Addr} {od__law_blocks an__law_blocks : Option Addr} {sl__law_blocks : Array (Option Value)} {oc__law_blocks kV__law_blocks dc__law_blocks pm__law_blocks cd__law_blocks ct__law_blocks : Value}
    {a__law_table_cost : Addr} {od__law_table_cost an__law_table_cost : Option Addr} {sl__law_table_cost : Array (Option Value)} {oc__law_table_cost kV__law_table_cost dc__law_table_cost pm__law_table_cost cd__law_table_cost ct__law_table_cost : Value}
    {a__law_cost : Addr} {od__law_cost an__law_cost : Option Addr} {sl__law_cost : Array (Option Value)} {oc__law_cost kV__law_cost dc__law_cost pm__law_cost cd__law_cost ct__law_cost : Value}
    {a__law_best : Addr} {od__law_best an__law_best : Option Addr} {sl__law_best : Array (Option Value)} {oc__law_best kV__law_best dc__law_best pm__law_best cd__law_best ct__law_best : Value}
    {a__law_number : Addr} {od__law_number an__law_number : Option Addr} {sl__law_number : Array (Option Value)} {oc__law_number kV__law_number dc__law_number pm__law_number cd__law_number ct__law_number : Value}
    {a__law_take : Addr} {od__law_take an__law_take : Option Addr} {sl__law_take : Array (Option Value)} {oc__law_take kV__law_take dc__law_take pm__law_take cd__law_take ct__law_take : Value}
    {a__law_pick : Addr} {od__law_pick an__law_pick : Option Addr} {sl__law_pick : Array (Option Value)} {oc__law_pick kV__law_pick dc__law_pick pm__law_pick cd__law_pick ct__law_pick : Value}
    {a__law_group : Addr} {od__law_group an__law_group : Option Addr} {sl__law_group : Array (Option Value)} {oc__law_group kV__law_group dc__law_group pm__law_group cd__law_group ct__law_group : Value}
    {a__law_cell : Addr} {od__law_cell an__law_cell : Option Addr} {sl__law_cell : Array (Option Value)} {oc__law_cell kV__law_cell dc__law_cell pm__law_cell cd__law_cell ct__law_cell : Value}
    {a__law_word : Addr} {od__law_word an__law_word : Option Addr} {sl__law_word : Array (Option Value)} {oc__law_word kV__law_word dc__law_word pm__law_word cd__law_word ct__law_word : Value}
    {a__law_chart : Addr} {od__law_chart an__law_chart : Option Addr} {sl__law_chart : Array (Option Value)} {oc__law_chart kV__law_chart dc__law_chart pm__law_chart cd__law_chart ct__law_chart : Value}
    {a__law_kinds : Addr} {od__law_kinds an__law_kinds : Option Addr} {sl__law_kinds : Array (Option Value)} {oc__law_kinds kV__law_kinds dc__law_kinds pm__law_kinds cd__law_kinds ct__law_kinds : Value}
    {a__law_price : Addr} {od__law_price an__law_price : Option Addr} {sl__law_price : Array (Option Value)} {oc__law_price kV__law_price dc__law_price pm__law_price cd__law_price ct__law_price : Value}
    {a_cheapest_parts : Addr} {od_cheapest_parts an_cheapest_parts : Option Addr} {sl_cheapest_parts : Array (Option Value)} {oc_cheapest_parts kV_cheapest_parts dc_cheapest_parts pm_cheapest_parts cd_cheapest_parts ct_cheapest_parts : Value}
    {a_law : Addr} {od_law an_law : Option Addr} {sl_law : Array (Option Value)} {oc_law kV_law dc_law pm_law cd_law ct_law : Value}
    {cc PP : Addr}
    (aC0 : PySem.W.nsIn K mainGlobals "StitchError" = some (some (.ref C0)))
    (aC1 : PySem.W.nsIn K mainGlobals "BadWord" = some (some (.ref C1)))
    (aC2 : PySem.W.nsIn K mainGlobals "BadChart" = some (some (.ref C2)))
    (aC3 : PySem.W.nsIn K mainGlobals "Chart" = some (some (.ref C3)))
    (xb1 : PySem.W.excIn K C1 [.type "ValueError", .type "Exception", .type "BaseException", .type "object"] "ValueError.__new__" = true)
    (kc1 : PySem.W.keepIn K (.ref C1) = true)
    (sb1 : PySem.W.subIn K (.ref C1) (.type "BaseException") = some true)
    (ty1 : PySem.W.typeIn K (.ref C1) = some (.type "type"))
    (hd1 : PySem.W.hasDictIn K C1 = true)
    (xb2 : PySem.W.excIn K C2 [.type "ValueError", .type "Exception", .type "BaseException", .type "object"] "ValueError.__new__" = true)
    (kc2 : PySem.W.keepIn K (.ref C2) = true)
    (sb2 : PySem.W.subIn K (.ref C2) (.type "BaseException") = some true)
    (ty2 : PySem.W.typeIn K (.ref C2) = some (.type "type"))
    (hd2 : PySem.W.hasDictIn K C2 = true)
    (se1_2 : PySem.W.subIn K (.ref C1) (.ref C2) = some false)
    (se2_2 : PySem.W.subIn K (.ref C2) (.ref C2) = some true)
    (pg3 : PySem.W.plainGet K C3 Str.empty = true)
    (hd3 : PySem.W.hasDictIn K C3 = true)
    (po3 : PySem.W.plainOver K C3 = true)
    (sa3 : PySem.W.findIn K (.ref C3) "__setattr__" = some (some (.builtin "object.__setattr__")))
    (mk3 : PySem.W.makesIn K C3 = true)
    (kc3 : PySem.W.keepIn K (.ref C3) = true)
    (n3_bounds : PySem.W.findIn K (.ref C3) "bounds" = some none)
    (n3_parts : PySem.W.findIn K (.ref C3) "parts" = some none)
    (b_abs : PySem.W.nsIn K mainGlobals "abs" = some none)
    (b_all : PySem.W.nsIn K mainGlobals "all" = some none)
    (b_bool : PySem.W.nsIn K mainGlobals "bool" = some none)
    (b_int : PySem.W.nsIn K mainGlobals "int" = some none)
    (b_isinstance : PySem.W.nsIn K mainGlobals "isinstance" = some none)
    (b_len : PySem.W.nsIn K mainGlobals "len" = some none)
    (b_list : PySem.W.nsIn K mainGlobals "list" = some none)
    (b_min : PySem.W.nsIn K mainGlobals "min" = some none)
    (b_range : PySem.W.nsIn K mainGlobals "range" = some none)
    (b_str : PySem.W.nsIn K mainGlobals "str" = some none)
    (b_sum : PySem.W.nsIn K mainGlobals "sum" = some none)
    (b_tuple : PySem.W.nsIn K mainGlobals "tuple" = some none)
    (b_zip : PySem.W.nsIn K mainGlobals "zip" = some none)
    (c_MOST : PySem.W.nsIn K mainGlobals "MOST" = some (some (.int 60 t_MOST)))
    (c_MOST_BASE : PySem.W.nsIn K mainGlobals "MOST_BASE" = some (some (.int 99 t_MOST_BASE)))
    (c_MOST_CELLS : PySem.W.nsIn K mainGlobals "MOST_CELLS" = some (some (.int 60 t_MOST_CELLS)))
    (c_MOST_CHANGE : PySem.W.nsIn K mainGlobals "MOST_CHANGE" = some (some (.int 12 t_MOST_CHANGE)))
    (c_MOST_CHART : PySem.W.nsIn K mainGlobals "MOST_CHART" = some (some (.int 60 t_MOST_CHART)))
    (c_MOST_REST : PySem.W.nsIn K mainGlobals "MOST_REST" = some (some (.int 30 t_MOST_REST)))
    (c_MOST_RISE : PySem.W.nsIn K mainGlobals "MOST_RISE" = some (some (.int 9 t_MOST_RISE)))
    (c_MOST_ROWS : PySem.W.nsIn K mainGlobals "MOST_ROWS" = some (some (.int 20 t_MOST_ROWS)))
    (kt_KINDS : PySem.W.nsIn K mainGlobals "KINDS" = some (some (.ref aT_KINDS)))
    (kd_KINDS : He.dicW K aT_KINDS = some (He.keysIn w.params (tb_KINDS.map (·.1)))) (kv_KINDS : tabDB K aT_KINDS tb_KINDS = true)
    (x_Chart___init__ : PySem.W.findIn K (.ref C3) "__init__" = some (some (.ref a_Chart___init__))) (i_Chart___init__ : PySem.W.isFn K (.ref a_Chart___init__) = true)
    (l_Chart___init__ : K.lookup a_Chart___init__ = some ⟨oc_Chart___init__, od_Chart___init__, .func (PySem.W.fnOf "__init__" "Chart.__init__" (defArgs s_Chart___init__) (defBody s_Chart___init__) (defScope s_Chart___init__) .none kV_Chart___init__ dc_Chart___init__ pm_Chart___init__ an_Chart___init__ cd_Chart___init__ ct_Chart___init__), sl_Chart___init__⟩)
    (d_Chart___init__ : PySem.W.codeIn K cd_Chart___init__ "Chart.__init__" = true) (k_Chart___init__ : PySem.W.keepIn K (.ref a_Chart___init__) = true)
    (x_is_kind : PySem.W.nsIn K mainGlobals "is_kind" = some (some (.ref a_is_kind)))
    (l_is_kind : K.lookup a_is_kind = some ⟨oc_is_kind, od_is_kind, .func (PySem.W.fnOf "is_kind" "is_kind" (defArgs s_is_kind) (defBody s_is_kind) (defScope s_is_kind) .none kV_is_kind dc_is_kind pm_is_kind an_is_kind cd_is_kind ct_is_kind), sl_is_kind⟩)
    (d_is_kind : PySem.W.codeIn K cd_is_kind "is_kind" = true) (k_is_kind : PySem.W.keepIn K (.ref a_is_kind) = true)
    (x_is_yarn : PySem.W.nsIn K mainGlobals "is_yarn" = some (some (.ref a_is_yarn)))
    (l_is_yarn : K.lookup a_is_yarn = some ⟨oc_is_yarn, od_is_yarn, .func (PySem.W.fnOf "is_yarn" "is_yarn" (defArgs s_is_yarn) (defBody s_is_yarn) (defScope s_is_yarn) .none kV_is_yarn dc_is_yarn pm_is_yarn an_is_yarn cd_is_yarn ct_is_yarn), sl_is_yarn⟩)
    (d_is_yarn : PySem.W.codeIn K cd_is_yarn "is_yarn" = true) (k_is_yarn : PySem.W.keepIn K (.ref a_is_yarn) = true)
    (x_is_cell : PySem.W.nsIn K mainGlobals "is_cell" = some (some (.ref a_is_cell)))
    (l_is_cell : K.lookup a_is_cell = some ⟨oc_is_cell, od_is_cell, .func (PySem.W.fnOf "is_cell" "is_cell" (defArgs s_is_cell) (defBody s_is_cell) (defScope s_is_cell) .none kV_is_cell dc_is_cell pm_is_cell an_is_cell cd_is_cell ct_is_cell), sl_is_cell⟩)
    (d_is_cell : PySem.W.codeIn K cd_is_cell "is_cell" = true) (k_is_cell : PySem.W.keepIn K (.ref a_is_cell) = true)
    (x_is_word : PySem.W.nsIn K mainGlobals "is_word" = some (some (.ref a_is_word)))
    (l_is_word : K.lookup a_is_word = some ⟨oc_is_word, od_is_word, .func (PySem.W.fnOf "is_word" "is_word" (defArgs s_is_word) (defBody s_is_word) (defScope s_is_word) .none kV_is_word dc_is_word pm_is_word an_is_word cd_is_word ct_is_word), sl_is_word⟩)
    (d_is_word : PySem.W.codeIn K cd_is_word "is_word" = true) (k_is_word : PySem.W.keepIn K (.ref a_is_word) = true)
    (x_takes : PySem.W.nsIn K mainGlobals "takes" = some (some (.ref a_takes)))
    (l_takes : K.lookup a_takes = some ⟨oc_takes, od_takes, .func (PySem.W.fnOf "takes" "takes" (defArgs s_takes) (defBody s_takes) (defScope s_takes) .none kV_takes dc_takes pm_takes an_takes cd_takes ct_takes), sl_takes⟩)
    (d_takes : PySem.W.codeIn K cd_takes "takes" = true) (k_takes : PySem.W.keepIn K (.ref a_takes) = true)
    (x_is_row : PySem.W.nsIn K mainGlobals "is_row" = some (some (.ref a_is_row)))
    (l_is_row : K.lookup a_is_row = some ⟨oc_is_row, od_is_row, .func (PySem.W.fnOf "is_row" "is_row" (defArgs s_is_row) (defBody s_is_row) (defScope s_is_row) .none kV_is_row dc_is_row pm_is_row an_is_row cd_is_row ct_is_row), sl_is_row⟩)
    (d_is_row : PySem.W.codeIn K cd_is_row "is_row" = true) (k_is_row : PySem.W.keepIn K (.ref a_is_row) = true)
    (x_check_chart : PySem.W.nsIn K mainGlobals "check_chart" = some (some (.ref a_check_chart)))
    (l_check_chart : K.lookup a_check_chart = some ⟨oc_check_chart, od_check_chart, .func (PySem.W.fnOf "check_chart" "check_chart" (defArgs s_check_chart) (defBody s_check_chart) (defScope s_check_chart) .none kV_check_chart dc_check_chart pm_check_chart an_check_chart cd_check_chart ct_check_chart), sl_check_chart⟩)
    (d_check_chart : PySem.W.codeIn K cd_check_chart "check_chart" = true) (k_check_chart : PySem.W.keepIn K (.ref a_check_chart) = true)
    (x_makes : PySem.W.nsIn K mainGlobals "makes" = some (some (.ref a_makes)))
    (l_makes : K.lookup a_makes = some ⟨oc_makes, od_makes, .func (PySem.W.fnOf "makes" "makes" (defArgs s_makes) (defBody s_makes) (defScope s_makes) .none kV_makes dc_makes pm_makes an_makes cd_makes ct_makes), sl_makes⟩)
    (d_makes : PySem.W.codeIn K cd_makes "makes" = true) (k_makes : PySem.W.keepIn K (.ref a_makes) = true)
    (x_is_even : PySem.W.nsIn K mainGlobals "is_even" = some (some (.ref a_is_even)))
    (l_is_even : K.lookup a_is_even = some ⟨oc_is_even, od_is_even, .func (PySem.W.fnOf "is_even" "is_even" (defArgs s_is_even) (defBody s_is_even) (defScope s_is_even) .none kV_is_even dc_is_even pm_is_even an_is_even cd_is_even ct_is_even), sl_is_even⟩)
    (d_is_even : PySem.W.codeIn K cd_is_even "is_even" = true) (k_is_even : PySem.W.keepIn K (.ref a_is_even) = true)
    (x_is_number : PySem.W.nsIn K mainGlobals "is_number" = some (some (.ref a_is_number)))
    (l_is_number : K.lookup a_is_number = some ⟨oc_is_number, od_is_number, .func (PySem.W.fnOf "is_number" "is_number" (defArgs s_is_number) (defBody s_is_number) (defScope s_is_number) .none kV_is_number dc_is_number pm_is_number an_is_number cd_is_number ct_is_number), sl_is_number⟩)
    (d_is_number : PySem.W.codeIn K cd_is_number "is_number" = true) (k_is_number : PySem.W.keepIn K (.ref a_is_number) = true)
    (x_is_line : PySem.W.nsIn K mainGlobals "is_line" = some (some (.ref a_is_line)))
    (l_is_line : K.lookup a_is_line = some ⟨oc_is_line, od_is_line, .func (PySem.W.fnOf "is_line" "is_line" (defArgs s_is_line) (defBody s_is_line) (defScope s_is_line) .none kV_is_line dc_is_line pm_is_line an_is_line cd_is_line ct_is_line), sl_is_line⟩)
    (d_is_line : PySem.W.codeIn K cd_is_line "is_line" = true) (k_is_line : PySem.W.keepIn K (.ref a_is_line) = true)
    (x_change_of : PySem.W.nsIn K mainGlobals "change_of" = some (some (.ref a_change_of)))
    (l_change_of : K.lookup a_change_of = some ⟨oc_change_of, od_change_of, .func (PySem.W.fnOf "change_of" "change_of" (defArgs s_change_of) (defBody s_change_of) (defScope s_change_of) .none kV_change_of dc_change_of pm_change_of an_change_of cd_change_of ct_change_of), sl_change_of⟩)
    (d_change_of : PySem.W.codeIn K cd_change_of "change_of" = true) (k_change_of : PySem.W.keepIn K (.ref a_change_of) = true)
    (x_round_change : PySem.W.nsIn K mainGlobals "round_change" = some (some (.ref a_round_change)))
    (l_round_change : K.lookup a_round_change = some ⟨oc_round_change, od_round_change, .func (PySem.W.fnOf "round_change" "round_change" (defArgs s_round_change) (defBody s_round_change) (defScope s_round_change) .none kV_round_change dc_round_change pm_round_change an_round_change cd_round_change ct_round_change), sl_round_change⟩)
    (d_round_change : PySem.W.codeIn K cd_round_change "round_change" = true) (k_round_change : PySem.W.keepIn K (.ref a_round_change) = true)
    (x_is_part : PySem.W.nsIn K mainGlobals "is_part" = some (some (.ref a_is_part)))
    (l_is_part : K.lookup a_is_part = some ⟨oc_is_part, od_is_part, .func (PySem.W.fnOf "is_part" "is_part" (defArgs s_is_part) (defBody s_is_part) (defScope s_is_part) .none kV_is_part dc_is_part pm_is_part an_is_part cd_is_part ct_is_part), sl_is_part⟩)
    (d_is_part : PySem.W.codeIn K cd_is_part "is_part" = true) (k_is_part : PySem.W.keepIn K (.ref a_is_part) = true)
    (x_is_constant : PySem.W.nsIn K mainGlobals "is_constant" = some (some (.ref a_is_constant)))
    (l_is_constant : K.lookup a_is_constant = some ⟨oc_is_constant, od_is_constant, .func (PySem.W.fnOf "is_constant" "is_constant" (defArgs s_is_constant) (defBody s_is_constant) (defScope s_is_constant) .none kV_is_constant dc_is_constant pm_is_constant an_is_constant cd_is_constant ct_is_constant), sl_is_constant⟩)
    (d_is_constant : PySem.W.codeIn K cd_is_constant "is_constant" = true) (k_is_constant : PySem.W.keepIn K (.ref a_is_constant) = true)
    (x_periods : PySem.W.nsIn K mainGlobals "periods" = some (some (.ref a_periods)))
    (l_periods : K.lookup a_periods = some ⟨oc_periods, od_periods, .func (PySem.W.fnOf "periods" "periods" (defArgs s_periods) (defBody s_periods) (defScope s_periods) .none kV_periods dc_periods pm_periods an_periods cd_periods ct_periods), sl_periods⟩)
    (d_periods : PySem.W.codeIn K cd_periods "periods" = true) (k_periods : PySem.W.keepIn K (.ref a_periods) = true)
    (x_repeat_cost : PySem.W.nsIn K mainGlobals "repeat_cost" = some (some (.ref a_repeat_cost)))
    (l_repeat_cost : K.lookup a_repeat_cost = some ⟨oc_repeat_cost, od_repeat_cost, .func (PySem.W.fnOf "repeat_cost" "repeat_cost" (defArgs s_repeat_cost) (defBody s_repeat_cost) (defScope s_repeat_cost) .none kV_repeat_cost dc_repeat_cost pm_repeat_cost an_repeat_cost cd_repeat_cost ct_repeat_cost), sl_repeat_cost⟩)
    (d_repeat_cost : PySem.W.codeIn K cd_repeat_cost "repeat_cost" = true) (k_repeat_cost : PySem.W.keepIn K (.ref a_repeat_cost) = true)
    (x_ways_below : PySem.W.nsIn K mainGlobals "ways_below" = some (some (.ref a_ways_below)))
    (l_ways_below : K.lookup a_ways_below = some ⟨oc_ways_below, od_ways_below, .func (PySem.W.fnOf "ways_below" "ways_below" (defArgs s_ways_below) (defBody s_ways_below) (defScope s_ways_below) .none kV_ways_below dc_ways_below pm_ways_below an_ways_below cd_ways_below ct_ways_below), sl_ways_below⟩)
    (d_ways_below : PySem.W.codeIn K cd_ways_below "ways_below" = true) (k_ways_below : PySem.W.keepIn K (.ref a_ways_below) = true)
    (x__filled : PySem.W.nsIn K mainGlobals "_filled" = some (some (.ref a__filled)))
    (l__filled : K.lookup a__filled = some ⟨oc__filled, od__filled, .func (PySem.W.fnOf "_filled" "_filled" (defArgs s__filled) (defBody s__filled) (defScope s__filled) .none kV__filled dc__filled pm__filled an__filled cd__filled ct__filled), sl__filled⟩)
    (d__filled : PySem.W.codeIn K cd__filled "_filled" = true) (k__filled : PySem.W.keepIn K (.ref a__filled) = true)
    (x_check_short : PySem.W.nsIn K mainGlobals "check_short" = some (some (.ref a_check_short)))
    (l_check_short : K.lookup a_check_short = some ⟨oc_check_short, od_check_short, .func (PySem.W.fnOf "check_short" "check_short" (defArgs s_check_short) (defBody s_check_short) (defScope s_check_short) .none kV_check_short dc_check_short pm_check_short an_check_short cd_check_short ct_check_short), sl_check_short⟩)
    (d_check_short : PySem.W.codeIn K cd_check_short "check_short" = true) (k_check_short : PySem.W.keepIn K (.ref a_check_short) = true)
    (x_least_cost : PySem.W.nsIn K mainGlobals "least_cost" = some (some (.ref a_least_cost)))
    (l_least_cost : K.lookup a_least_cost = some ⟨oc_least_cost, od_least_cost, .func (PySem.W.fnOf "least_cost" "least_cost" (defArgs s_least_cost) (defBody s_least_cost) (defScope s_least_cost) .none kV_least_cost dc_least_cost pm_least_cost an_least_cost cd_least_cost ct_least_cost), sl_least_cost⟩)
    (d_least_cost : PySem.W.codeIn K cd_least_cost "least_cost" = true) (k_least_cost : PySem.W.keepIn K (.ref a_least_cost) = true)
    (x_row_cost : PySem.W.nsIn K mainGlobals "row_cost" = some (some (.ref a_row_cost)))
    (l_row_cost : K.lookup a_row_cost = some ⟨oc_row_cost, od_row_cost, .func (PySem.W.fnOf "row_cost" "row_cost" (defArgs s_row_cost) (defBody s_row_cost) (defScope s_row_cost) .none kV_row_cost dc_row_cost pm_row_cost an_row_cost cd_row_cost ct_row_cost), sl_row_cost⟩)
    (d_row_cost : PySem.W.codeIn K cd_row_cost "row_cost" = true) (k_row_cost : PySem.W.keepIn K (.ref a_row_cost) = true)
    (x_rows_of : PySem.W.nsIn K mainGlobals "rows_of" = some (some (.ref a_rows_of)))
    (l_rows_of : K.lookup a_rows_of = some ⟨oc_rows_of, od_rows_of, .func (PySem.W.fnOf "rows_of" "rows_of" (defArgs s_rows_of) (defBody s_rows_of) (defScope s_rows_of) .none kV_rows_of dc_rows_of pm_rows_of an_rows_of cd_rows_of ct_rows_of), sl_rows_of⟩)
    (d_rows_of : PySem.W.codeIn K cd_rows_of "rows_of" = true) (k_rows_of : PySem.W.keepIn K (.ref a_rows_of) = true)
    (x_part_cost : PySem.W.nsIn K mainGlobals "part_cost" = some (some (.ref a_part_cost)))
    (l_part_cost : K.lookup a_part_cost = some ⟨oc_part_cost, od_part_cost, .func (PySem.W.fnOf "part_cost" "part_cost" (defArgs s_part_cost) (defBody s_part_cost) (defScope s_part_cost) .none kV_part_cost dc_part_cost pm_part_cost an_part_cost cd_part_cost ct_part_cost), sl_part_cost⟩)
    (d_part_cost : PySem.W.codeIn K cd_part_cost "part_cost" = true) (k_part_cost : PySem.W.keepIn K (.ref a_part_cost) = true)
    (x_parts_from : PySem.W.nsIn K mainGlobals "parts_from" = some (some (.ref a_parts_from)))
    (l_parts_from : K.lookup a_parts_from = some ⟨oc_parts_from, od_parts_from, .func (PySem.W.fnOf "parts_from" "parts_from" (defArgs s_parts_from) (defBody s_parts_from) (defScope s_parts_from) .none kV_parts_from dc_parts_from pm_parts_from an_parts_from cd_parts_from ct_parts_from), sl_parts_from⟩)
    (d_parts_from : PySem.W.codeIn K cd_parts_from "parts_from" = true) (k_parts_from : PySem.W.keepIn K (.ref a_parts_from) = true)
    (x_unrolled : PySem.W.nsIn K mainGlobals "unrolled" = some (some (.ref a_unrolled)))
    (l_unrolled : K.lookup a_unrolled = some ⟨oc_unrolled, od_unrolled, .func (PySem.W.fnOf "unrolled" "unrolled" (defArgs s_unrolled) (defBody s_unrolled) (defScope s_unrolled) .none kV_unrolled dc_unrolled pm_unrolled an_unrolled cd_unrolled ct_unrolled), sl_unrolled⟩)
    (d_unrolled : PySem.W.codeIn K cd_unrolled "unrolled" = true) (k_unrolled : PySem.W.keepIn K (.ref a_unrolled) = true)
    (x_Chart_shows : PySem.W.findIn K (.ref C3) "shows" = some (some (.ref a_Chart_shows))) (i_Chart_shows : PySem.W.isFn K (.ref a_Chart_shows) = true)
    (l_Chart_shows : K.lookup a_Chart_shows = some ⟨oc_Chart_shows, od_Chart_shows, .func (PySem.W.fnOf "shows" "Chart.shows" (defArgs s_Chart_shows) (defBody s_Chart_shows) (defScope s_Chart_shows) .none kV_Chart_shows dc_Chart_shows pm_Chart_shows an_Chart_shows cd_Chart_shows ct_Chart_shows), sl_Chart_shows⟩)
    (d_Chart_shows : PySem.W.codeIn K cd_Chart_shows "Chart.shows" = true) (k_Chart_shows : PySem.W.keepIn K (.ref a_Chart_shows) = true)
    (x__law_all_rows : PySem.W.nsIn K mainGlobals "_law_all_rows" = some (some (.ref a__law_all_rows)))
    (l__law_all_rows : K.lookup a__law_all_rows = some ⟨oc__law_all_rows, od__law_all_rows, .func (PySem.W.fnOf "_law_all_rows" "_law_all_rows" (defArgs s__law_all_rows) (defBody s__law_all_rows) (defScope s__law_all_rows) .none kV__law_all_rows dc__law_all_rows pm__law_all_rows an__law_all_rows cd__law_all_rows ct__law_all_rows), sl__law_all_rows⟩)
    (d__law_all_rows : PySem.W.codeIn K cd__law_all_rows "_law_all_rows" = true) (k__law_all_rows : PySem.W.keepIn K (.ref a__law_all_rows) = true)
    (x__law_makes : PySem.W.nsIn K mainGlobals "_law_makes" = some (some (.ref a__law_makes)))
    (l__law_makes : K.lookup a__law_makes = some ⟨oc__law_makes, od__law_makes, .func (PySem.W.fnOf "_law_makes" "_law_makes" (defArgs s__law_makes) (defBody s__law_makes) (defScope s__law_makes) .none kV__law_makes dc__law_makes pm__law_makes an__law_makes cd__law_makes ct__law_makes), sl__law_makes⟩)
    (d__law_makes : PySem.W.codeIn K cd__law_makes "_law_makes" = true) (k__law_makes : PySem.W.keepIn K (.ref a__law_makes) = true)
    (x__law_takes : PySem.W.nsIn K mainGlobals "_law_takes" = some (some (.ref a__law_takes)))
    (l__law_takes : K.lookup a__law_takes = some ⟨oc__law_takes, od__law_takes, .func (PySem.W.fnOf "_law_takes" "_law_takes" (defArgs s__law_takes) (defBody s__law_takes) (defScope s__law_takes) .none kV__law_takes dc__law_takes pm__law_takes an__law_takes cd__law_takes ct__law_takes), sl__law_takes⟩)
    (d__law_takes : PySem.W.codeIn K cd__law_takes "_law_takes" = true) (k__law_takes : PySem.W.keepIn K (.ref a__law_takes) = true)
    (x__law_blocks : PySem.W.nsIn K mainGlobals "_law_blocks" = some (some (.ref a__law_blocks)))
    (l__law_blocks : K.lookup a__law_blocks = some ⟨oc__law_blocks, od__law_blocks, .func (PySem.W.fnOf "_law_blocks" "_law_blocks" (defArgs s__law_blocks) (defBody s__law_blocks) (defScope s__law_blocks) .none kV__law_blocks dc__law_blocks pm__law_blocks an__law_blocks cd__law_blocks ct__law_blocks), sl__law_blocks⟩)
    (d__law_blocks : PySem.W.codeIn K cd__law_blocks "_law_blocks" = true) (k__law_blocks : PySem.W.keepIn K (.ref a__law_blocks) = true)
    (x__law_table_cost : PySem.W.nsIn K mainGlobals "_law_table_cost" = some (some (.ref a__law_table_cost)))
    (l__law_table_cost : K.lookup a__law_table_cost = some ⟨oc__law_table_cost, od__law_table_cost, .func (PySem.W.fnOf "_law_table_cost" "_law_table_cost" (defArgs s__law_table_cost) (defBody s__law_table_cost) (defScope s__law_table_cost) .none kV__law_table_cost dc__law_table_cost pm__law_table_cost an__law_table_cost cd__law_table_cost ct__law_table_cost), sl__law_table_cost⟩)
    (d__law_table_cost : PySem.W.codeIn K cd__law_table_cost "_law_table_cost" = true) (k__law_table_cost : PySem.W.keepIn K (.ref a__law_table_cost) = true)
    (x__law_cost : PySem.W.nsIn K mainGlobals "_law_cost" = some (some (.ref a__law_cost)))
    (l__law_cost : K.lookup a__law_cost = some ⟨oc__law_cost, od__law_cost, .func (PySem.W.fnOf "_law_cost" "_law_cost" (defArgs s__law_cost) (defBody s__law_cost) (defScope s__law_cost) .none kV__law_cost dc__law_cost pm__law_cost an__law_cost cd__law_cost ct__law_cost), sl__law_cost⟩)
    (d__law_cost : PySem.W.codeIn K cd__law_cost "_law_cost" = true) (k__law_cost : PySem.W.keepIn K (.ref a__law_cost) = true)
    (x__law_best : PySem.W.nsIn K mainGlobals "_law_best" = some (some (.ref a__law_best)))
    (l__law_best : K.lookup a__law_best = some ⟨oc__law_best, od__law_best, .func (PySem.W.fnOf "_law_best" "_law_best" (defArgs s__law_best) (defBody s__law_best) (defScope s__law_best) .none kV__law_best dc__law_best pm__law_best an__law_best cd__law_best ct__law_best), sl__law_best⟩)
    (d__law_best : PySem.W.codeIn K cd__law_best "_law_best" = true) (k__law_best : PySem.W.keepIn K (.ref a__law_best) = true)
    (x__law_number : PySem.W.nsIn K mainGlobals "_law_number" = some (some (.ref a__law_number)))
    (l__law_number : K.lookup a__law_number = some ⟨oc__law_number, od__law_number, .func (PySem.W.fnOf "_law_number" "_law_number" (defArgs s__law_number) (defBody s__law_number) (defScope s__law_number) .none kV__law_number dc__law_number pm__law_number an__law_number cd__law_number ct__law_number), sl__law_number⟩)
    (d__law_number : PySem.W.codeIn K cd__law_number "_law_number" = true) (k__law_number : PySem.W.keepIn K (.ref a__law_number) = true)
    (x__law_take : PySem.W.nsIn K mainGlobals "_law_take" = some (some (.ref a__law_take)))
    (l__law_take : K.lookup a__law_take = some ⟨oc__law_take, od__law_take, .func (PySem.W.fnOf "_law_take" "_law_take" (defArgs s__law_take) (defBody s__law_take) (defScope s__law_take) .none kV__law_take dc__law_take pm__law_take an__law_take cd__law_take ct__law_take), sl__law_take⟩)
    (d__law_take : PySem.W.codeIn K cd__law_take "_law_take" = true) (k__law_take : PySem.W.keepIn K (.ref a__law_take) = true)
    (x__law_pick : PySem.W.nsIn K mainGlobals "_law_pick" = some (some (.ref a__law_pick)))
    (l__law_pick : K.lookup a__law_pick = some ⟨oc__law_pick, od__law_pick, .func (PySem.W.fnOf "_law_pick" "_law_pick" (defArgs s__law_pick) (defBody s__law_pick) (defScope s__law_pick) .none kV__law_pick dc__law_pick pm__law_pick an__law_pick cd__law_pick ct__law_pick), sl__law_pick⟩)
    (d__law_pick : PySem.W.codeIn K cd__law_pick "_law_pick" = true) (k__law_pick : PySem.W.keepIn K (.ref a__law_pick) = true)
    (x__law_group : PySem.W.nsIn K mainGlobals "_law_group" = some (some (.ref a__law_group)))
    (l__law_group : K.lookup a__law_group = some ⟨oc__law_group, od__law_group, .func (PySem.W.fnOf "_law_group" "_law_group" (defArgs s__law_group) (defBody s__law_group) (defScope s__law_group) .none kV__law_group dc__law_group pm__law_group an__law_group cd__law_group ct__law_group), sl__law_group⟩)
    (d__law_group : PySem.W.codeIn K cd__law_group "_law_group" = true) (k__law_group : PySem.W.keepIn K (.ref a__law_group) = true)
    (x__law_cell : PySem.W.nsIn K mainGlobals "_law_cell" = some (some (.ref a__law_cell)))
    (l__law_cell : K.lookup a__law_cell = some ⟨oc__law_cell, od__law_cell, .func (PySem.W.fnOf "_law_cell" "_law_cell" (defArgs s__law_cell) (defBody s__law_cell) (defScope s__law_cell) .none kV__law_cell dc__law_cell pm__law_cell an__law_cell cd__law_cell ct__law_cell), sl__law_cell⟩)
    (d__law_cell : PySem.W.codeIn K cd__law_cell "_law_cell" = true) (k__law_cell : PySem.W.keepIn K (.ref a__law_cell) = true)
    (x__law_word : PySem.W.nsIn K mainGlobals "_law_word" = some (some (.ref a__law_word)))
    (l__law_word : K.lookup a__law_word = some ⟨oc__law_word, od__law_word, .func (PySem.W.fnOf "_law_word" "_law_word" (defArgs s__law_word) (defBody s__law_word) (defScope s__law_word) .none kV__law_word dc__law_word pm__law_word an__law_word cd__law_word ct__law_word), sl__law_word⟩)
    (d__law_word : PySem.W.codeIn K cd__law_word "_law_word" = true) (k__law_word : PySem.W.keepIn K (.ref a__law_word) = true)
    (x__law_chart : PySem.W.nsIn K mainGlobals "_law_chart" = some (some (.ref a__law_chart)))
    (l__law_chart : K.lookup a__law_chart = some ⟨oc__law_chart, od__law_chart, .func (PySem.W.fnOf "_law_chart" "_law_chart" (defArgs s__law_chart) (defBody s__law_chart) (defScope s__law_chart) .none kV__law_chart dc__law_chart pm__law_chart an__law_chart cd__law_chart ct__law_chart), sl__law_chart⟩)
    (d__law_chart : PySem.W.codeIn K cd__law_chart "_law_chart" = true) (k__law_chart : PySem.W.keepIn K (.ref a__law_chart) = true)
    (x__law_kinds : PySem.W.nsIn K mainGlobals "_law_kinds" = some (some (.ref a__law_kinds)))
    (l__law_kinds : K.lookup a__law_kinds = some ⟨oc__law_kinds, od__law_kinds, .func (PySem.W.fnOf "_law_kinds" "_law_kinds" (defArgs s__law_kinds) (defBody s__law_kinds) (defScope s__law_kinds) .none kV__law_kinds dc__law_kinds pm__law_kinds an__law_kinds cd__law_kinds ct__law_kinds), sl__law_kinds⟩)
    (d__law_kinds : PySem.W.codeIn K cd__law_kinds "_law_kinds" = true) (k__law_kinds : PySem.W.keepIn K (.ref a__law_kinds) = true)
    (x__law_price : PySem.W.nsIn K mainGlobals "_law_price" = some (some (.ref a__law_price)))
    (l__law_price : K.lookup a__law_price = some ⟨oc__law_price, od__law_price, .func (PySem.W.fnOf "_law_price" "_law_price" (defArgs s__law_price) (defBody s__law_price) (defScope s__law_price) .none kV__law_price dc__law_price pm__law_price an__law_price cd__law_price ct__law_price), sl__law_price⟩)
    (d__law_price : PySem.W.codeIn K cd__law_price "_law_price" = true) (k__law_price : PySem.W.keepIn K (.ref a__law_price) = true)
    (x_cheapest_parts : PySem.W.nsIn K mainGlobals "cheapest_parts" = some (some (.ref a_cheapest_parts)))
    (l_cheapest_parts : K.lookup a_cheapest_parts = some ⟨oc_cheapest_parts, od_cheapest_parts, .func (PySem.W.fnOf "cheapest_parts" "cheapest_parts" (defArgs s_cheapest_parts) (defBody s_cheapest_parts) (defScope s_cheapest_parts) .none kV_cheapest_parts dc_cheapest_parts pm_cheapest_parts an_cheapest_parts cd_cheapest_parts ct_cheapest_parts), sl_cheapest_parts⟩)
    (d_cheapest_parts : PySem.W.codeIn K cd_cheapest_parts "cheapest_parts" = true) (k_cheapest_parts : PySem.W.keepIn K (.ref a_cheapest_parts) = true)
    (x_law : PySem.W.nsIn K mainGlobals "law" = some (some (.ref a_law)))
    (l_law : K.lookup a_law = some ⟨oc_law, od_law, .func (PySem.W.fnOf "law" "law" (defArgs s_law) (defBody s_law) (defScope s_law) .none kV_law dc_law pm_law an_law cd_law ct_law), sl_law⟩)
    (d_law : PySem.W.codeIn K cd_law "law" = true) (k_law : PySem.W.keepIn K (.ref a_law) = true)
    (hcd : cd__filled = .ref cc) :
    ∃ fd : FuncData, (∀ (s : Shared) (v : Value), BindsTo s fd ⟨[v], []⟩ [("_law_script", v)]) ∧ ∀ base : Heap, K.In base → base.Ns mainGlobals mg → LamX.TabB base mg cc PP → FnOk l.prog w K mg base (L2.CX l.prog w) 9 fa fd ["_law_script"] (spLaw K [(PP, (("_filled" : Str) ++ (".<locals>." : Str)) ++ ("<lambda>" : Str))]) := by
  have e := hfa.symm.trans (PySem.W.mg_of X G x_law)
  cases e
  let cl : Nat → Addr := fun i => if i = 0 then C0 else if i = 1 then C1 else if i = 2 then C2 else if i = 3 then C3 else 0
  have TT : ∀ W : Wd, W.cl = cl → Txt K w mg W := fun W hW => ⟨by rw [hW]; exact ⟨pg3, hd3, po3, sa3⟩, by rw [hW]; exact ⟨xb2, PySem.W.mg_of X G aC2, kc2, sb2, ty2⟩, by rw [hW]; exact ⟨xb1, PySem.W.mg_of X G aC1, kc1, sb1, ty1⟩, by rw [hW]; exact PySem.W.mg_of X G aC2, (by rw [hW]; intro i t h; unfold tr2 at h; (by_cases e0 : i = 1; (subst e0; rw [if_pos rfl] at h; cases h; exact PySem.W.exm_ref sb2 hd2 ty2 se1_2)); rw [if_neg e0] at h; (by_cases e1 : i = 2; (subst e1; rw [if_pos rfl] at h; cases h; exact PySem.W.exm_ref sb2 hd2 ty2 se2_2)); rw [if_neg e1] at h; cases h), by rw [hW]; exact n3_bounds, by rw [hW]; exact n3_parts, PySem.W.mg_none_of X G b_abs, PySem.W.mg_none_of X G b_all, PySem.W.mg_none_of X G b_bool, PySem.W.mg_none_of X G b_int, PySem.W.mg_none_of X G b_isinstance, PySem.W.mg_none_of X G b_len, PySem.W.mg_none_of X G b_list, PySem.W.mg_none_of X G b_min, PySem.W.mg_none_of X G b_range, PySem.W.mg_none_of X G b_str, PySem.W.mg_none_of X G b_sum, PySem.W.mg_none_of X G b_tuple, PySem.W.mg_none_of X G b_zip, ⟨_, PySem.W.mg_of X G c_MOST⟩, ⟨_, PySem.W.mg_of X G c_MOST_BASE⟩, ⟨_, PySem.W.mg_of X G c_MOST_CELLS⟩, ⟨_, PySem.W.mg_of X G c_MOST_CHANGE⟩, ⟨_, PySem.W.mg_of X G c_MOST_CHART⟩, ⟨_, PySem.W.mg_of X G c_MOST_REST⟩, ⟨_, PySem.W.mg_of X G c_MOST_RISE⟩, ⟨_, PySem.W.mg_of X G c_MOST_ROWS⟩, ⟨_, PySem.W.mg_of X G kt_KINDS, ktabs_of kd_KINDS kv_KINDS (by decide)⟩⟩
  have F_Chart___init__ := fun_mk (st := s_Chart___init__) l_Chart___init__ d_Chart___init__ k_Chart___init__
  have B_Chart___init__ := F_Chart___init__.binds (ps := ["self", "parts", "bounds"]) fun _ _ _ _ _ _ us hl => match us, hl with | [_, _, _], _ => rfl
  have F_is_kind := fun_mk (st := s_is_kind) l_is_kind d_is_kind k_is_kind
  have B_is_kind := F_is_kind.binds (ps := ["thing"]) fun _ _ _ _ _ _ us hl => match us, hl with | [_], _ => rfl
  have F_is_yarn := fun_mk (st := s_is_yarn) l_is_yarn d_is_yarn k_is_yarn
  have B_is_yarn := F_is_yarn.binds (ps := ["thing"]) fun _ _ _ _ _ _ us hl => match us, hl with | [_], _ => rfl
  have F_is_cell := fun_mk (st := s_is_cell) l_is_cell d_is_cell k_is_cell
  have B_is_cell := F_is_cell.binds (ps := ["thing"]) fun _ _ _ _ _ _ us hl => match us, hl with | [_], _ => rfl
  have F_is_word := fun_mk (st := s_is_word) l_is_word d_is_word k_is_word
  have B_is_word := F_is_word.binds (ps := ["thing"]) fun _ _ _ _ _ _ us hl => match us, hl with | [_], _ => rfl
  have F_takes := fun_mk (st := s_takes) l_takes d_takes k_takes
  have B_takes := F_takes.binds (ps := ["word"]) fun _ _ _ _ _ _ us hl => match us, hl with | [_], _ => rfl
  have F_is_row := fun_mk (st := s_is_row) l_is_row d_is_row k_is_row
  have B_is_row := F_is_row.binds (ps := ["thing"]) fun _ _ _ _ _ _ us hl => match us, hl with | [_], _ => rfl
  have F_check_chart := fun_mk (st := s_check_chart) l_check_chart d_check_chart k_check_chart
  have B_check_chart := F_check_chart.binds (ps := ["rows"]) fun _ _ _ _ _ _ us hl => match us, hl with | [_], _ => rfl
  have F_makes := fun_mk (st := s_makes) l_makes d_makes k_makes
  have B_makes := F_makes.binds (ps := ["word"]) fun _ _ _ _ _ _ us hl => match us, hl with | [_], _ => rfl
  have F_is_even := fun_mk (st := s_is_even) l_is_even d_is_even k_is_even
  have B_is_even := F_is_even.binds (ps := ["row"]) fun _ _ _ _ _ _ us hl => match us, hl with | [_], _ => rfl
  have F_is_number := fun_mk (st := s_is_number) l_is_number d_is_number k_is_number
  have B_is_number := F_is_number.binds (ps := ["thing"]) fun _ _ _ _ _ _ us hl => match us, hl with | [_], _ => rfl
  have F_is_line := fun_mk (st := s_is_line) l_is_line d_is_line k_is_line
  have B_is_line := F_is_line.binds (ps := ["thing"]) fun _ _ _ _ _ _ us hl => match us, hl with | [_], _ => rfl
  have F_change_of := fun_mk (st := s_change_of) l_change_of d_change_of k_change_of
  have B_change_of := F_change_of.binds (ps := ["row"]) fun _ _ _ _ _ _ us hl => match us, hl with | [_], _ => rfl
  have F_round_change := fun_mk (st := s_round_change) l_round_change d_round_change k_round_change
  have B_round_change := F_round_change.binds (ps := ["part"]) fun _ _ _ _ _ _ us hl => match us, hl with | [_], _ => rfl
  have F_is_part := fun_mk (st := s_is_part) l_is_part d_is_part k_is_part
  have B_is_part := F_is_part.binds (ps := ["thing"]) fun _ _ _ _ _ _ us hl => match us, hl with | [_], _ => rfl
  have F_is_constant := fun_mk (st := s_is_constant) l_is_constant d_is_constant k_is_constant
  have B_is_constant := F_is_constant.binds (ps := ["part"]) fun _ _ _ _ _ _ us hl => match us, hl with | [_], _ => rfl
  have F_periods := fun_mk (st := s_periods) l_periods d_periods k_periods
  have B_periods := F_periods.binds (ps := ["word"]) fun _ _ _ _ _ _ us hl => match us, hl with | [_], _ => rfl
  have F_repeat_cost := fun_mk (st := s_repeat_cost) l_repeat_cost d_repeat_cost k_repeat_cost
  have B_repeat_cost := F_repeat_cost.binds (ps := ["cost", "many"]) fun _ _ _ _ _ _ us hl => match us, hl with | [_, _], _ => rfl
  have F_ways_below := fun_mk (st := s_ways_below) l_ways_below d_ways_below k_ways_below
  have B_ways_below := F_ways_below.binds (ps := ["word", "low", "high", "table"]) fun _ _ _ _ _ _ us hl => match us, hl with | [_, _, _, _], _ => rfl
  have F__filled := fun_mk (st := s__filled) l__filled d__filled k__filled
  have B__filled := F__filled.binds (ps := ["word"]) fun _ _ _ _ _ _ us hl => match us, hl with | [_], _ => rfl
  have F_check_short := fun_mk (st := s_check_short) l_check_short d_check_short k_check_short
  have B_check_short := F_check_short.binds (ps := ["word"]) fun _ _ _ _ _ _ us hl => match us, hl with | [_], _ => rfl
  have F_least_cost := fun_mk (st := s_least_cost) l_least_cost d_least_cost k_least_cost
  have B_least_cost := F_least_cost.binds (ps := ["word"]) fun _ _ _ _ _ _ us hl => match us, hl with | [_], _ => rfl
  have F_row_cost := fun_mk (st := s_row_cost) l_row_cost d_row_cost k_row_cost
  have B_row_cost := F_row_cost.binds (ps := ["row"]) fun _ _ _ _ _ _ us hl => match us, hl with | [_], _ => rfl
  have F_rows_of := fun_mk (st := s_rows_of) l_rows_of d_rows_of k_rows_of
  have B_rows_of := F_rows_of.binds (ps := ["part"]) fun _ _ _ _ _ _ us hl => match us, hl with | [_], _ => rfl
  have F_part_cost := fun_mk (st := s_part_cost) l_part_cost d_part_cost k_part_cost
  have B_part_cost := F_part_cost.binds (ps := ["part"]) fun _ _ _ _ _ _ us hl => match us, hl with | [_], _ => rfl
  have F_parts_from := fun_mk (st := s_parts_from) l_parts_from d_parts_from k_parts_from
  have B_parts_from := F_parts_from.binds (ps := ["rows", "low"]) fun _ _ _ _ _ _ us hl => match us, hl with | [_, _], _ => rfl
  have F_unrolled := fun_mk (st := s_unrolled) l_unrolled d_unrolled k_unrolled
  have B_unrolled := F_unrolled.binds (ps := ["parts"]) fun _ _ _ _ _ _ us hl => match us, hl with | [_], _ => rfl
  have F_Chart_shows := fun_mk (st := s_Chart_shows) l_Chart_shows d_Chart_shows k_Chart_shows
  have B_Chart_shows := F_Chart_shows.binds (ps := ["self", "rows"]) fun _ _ _ _ _ _ us hl => match us, hl with | [_, _], _ => rfl
  have F__law_all_rows := fun_mk (st := s__law_all_rows) l__law_all_rows d__law_all_rows k__law_all_rows
  have B__law_all_rows := F__law_all_rows.binds (ps := ["_law_parts", "_law_size"]) fun _ _ _ _ _ _ us hl => match us, hl with | [_, _], _ => rfl
  have F__law_makes := fun_mk (st := s__law_makes) l__law_makes d__law_makes k__law_makes
  have B__law_makes := F__law_makes.binds (ps := ["_law_word_here", "_law_kinds_here"]) fun _ _ _ _ _ _ us hl => match us, hl with | [_, _], _ => rfl
  have F__law_takes := fun_mk (st := s__law_takes) l__law_takes d__law_takes k__law_takes
  have B__law_takes := F__law_takes.binds (ps := ["_law_word_here", "_law_kinds_here"]) fun _ _ _ _ _ _ us hl => match us, hl with | [_, _], _ => rfl
  have F__law_blocks := fun_mk (st := s__law_blocks) l__law_blocks d__law_blocks k__law_blocks
  have B__law_blocks := F__law_blocks.binds (ps := ["_law_chart_here", "_law_low", "_law_kinds_here"]) fun _ _ _ _ _ _ us hl => match us, hl with | [_, _, _], _ => rfl
  have F__law_table_cost := fun_mk (st := s__law_table_cost) l__law_table_cost d__law_table_cost k__law_table_cost
  have B__law_table_cost := F__law_table_cost.binds (ps := ["_law_word_here"]) fun _ _ _ _ _ _ us hl => match us, hl with | [_], _ => rfl
  have F__law_cost := fun_mk (st := s__law_cost) l__law_cost d__law_cost k__law_cost
  have B__law_cost := F__law_cost.binds (ps := ["_law_row"]) fun _ _ _ _ _ _ us hl => match us, hl with | [_], _ => rfl
  have F__law_best := fun_mk (st := s__law_best) l__law_best d__law_best k__law_best
  have B__law_best := F__law_best.binds (ps := ["_law_chart_here", "_law_kinds_here"]) fun _ _ _ _ _ _ us hl => match us, hl with | [_, _], _ => rfl
  have F__law_number := fun_mk (st := s__law_number) l__law_number d__law_number k__law_number
  have B__law_number := F__law_number.binds (ps := ["_law_script", "_law_index"]) fun _ _ _ _ _ _ us hl => match us, hl with | [_, _], _ => rfl
  have F__law_take := fun_mk (st := s__law_take) l__law_take d__law_take k__law_take
  have B__law_take := F__law_take.binds (ps := ["_law_draw", "_law_many"]) fun _ _ _ _ _ _ us hl => match us, hl with | [_, _], _ => rfl
  have F__law_pick := fun_mk (st := s__law_pick) l__law_pick d__law_pick k__law_pick
  have B__law_pick := F__law_pick.binds (ps := ["_law_draw", "_law_items"]) fun _ _ _ _ _ _ us hl => match us, hl with | [_, _], _ => rfl
  have F__law_group := fun_mk (st := s__law_group) l__law_group d__law_group k__law_group
  have B__law_group := F__law_group.binds (ps := ["_law_draw", "_law_even", "_law_yarns"]) fun _ _ _ _ _ _ us hl => match us, hl with | [_, _, _], _ => rfl
  have F__law_cell := fun_mk (st := s__law_cell) l__law_cell d__law_cell k__law_cell
  have B__law_cell := F__law_cell.binds (ps := ["_law_draw", "_law_yarns"]) fun _ _ _ _ _ _ us hl => match us, hl with | [_, _], _ => rfl
  have F__law_word := fun_mk (st := s__law_word) l__law_word d__law_word k__law_word
  have B__law_word := F__law_word.binds (ps := ["_law_draw", "_law_many", "_law_yarns"]) fun _ _ _ _ _ _ us hl => match us, hl with | [_, _, _], _ => rfl
  have F__law_chart := fun_mk (st := s__law_chart) l__law_chart d__law_chart k__law_chart
  have B__law_chart := F__law_chart.binds (ps := ["_law_draw"]) fun _ _ _ _ _ _ us hl => match us, hl with | [_], _ => rfl
  have F__law_kinds := fun_mk (st := s__law_kinds) l__law_kinds d__law_kinds k__law_kinds
  have B__law_kinds := F__law_kinds.binds (ps := []) fun _ _ _ _ _ _ us hl => match us, hl with | [], _ => rfl
  have F__law_price := fun_mk (st := s__law_price) l__law_price d__law_price k__law_price
  have B__law_price := F__law_price.binds (ps := ["_law_parts"]) fun _ _ _ _ _ _ us hl => match us, hl with | [_], _ => rfl
  have F_cheapest_parts := fun_mk (st := s_cheapest_parts) l_cheapest_parts d_cheapest_parts k_cheapest_parts
  have B_cheapest_parts := F_cheapest_parts.binds (ps := ["rows"]) fun _ _ _ _ _ _ us hl => match us, hl with | [_], _ => rfl
  have F_law := fun_mk (st := s_law) l_law d_law k_law
  refine ⟨PySem.W.fnOf "law" "law" (defArgs s_law) (defBody s_law) (defScope s_law) .none kV_law dc_law pm_law an_law cd_law ct_law, fun s v => .of_eq rfl, fun base _ _ TBc => ?_⟩
  refine okLaw (cl := cl) (rest := (defBody s_law).drop 1) (fun W => g_law W) F_law sc_law rfl (fun cdv A outer s H E => ps_set (i := 1) sc_law.nd rfl (Or.inl rfl) (pe_lst (pa_cons (pv 0) (pa_cons pe_int pa_nil)))) (fun W hW hTb cdv hcv => ?_) (fun W h _ => K47.good W) (by decide)
  have T := TT W hW
  have G_Chart___init__ : CalI l.prog w K mg base (W.cl 3) "Chart" 1 (spI K W (f_Chart___init__) 3 2) := ⟨_, _, _, ok_Chart___init__ F_Chart___init__ T , by rw [hW]; exact ⟨mk3, x_Chart___init__, i_Chart___init__, kc3⟩, by rw [hW]; exact PySem.W.mg_of X G aC3, B_Chart___init__⟩
  have G_is_kind : Cal l.prog w K mg base "is_kind" 1 (spD K W (f_is_kind) 1) := ⟨_, _, _, ok_is_kind F_is_kind T , PySem.W.mg_of X G x_is_kind, k_is_kind, B_is_kind⟩
  have G_is_yarn : Cal l.prog w K mg base "is_yarn" 1 (spD K W (f_is_yarn) 1) := ⟨_, _, _, ok_is_yarn F_is_yarn T , PySem.W.mg_of X G x_is_yarn, k_is_yarn, B_is_yarn⟩
  have G_is_cell : Cal l.prog w K mg base "is_cell" 2 (spD K W (f_is_cell) 1) := ⟨_, _, _, ok_is_cell F_is_cell T G_is_kind G_is_yarn, PySem.W.mg_of X G x_is_cell, k_is_cell, B_is_cell⟩
  have G_is_word : Cal l.prog w K mg base "is_word" 3 (spD K W (f_is_word) 1) := ⟨_, _, _, ok_is_word F_is_word T G_is_cell, PySem.W.mg_of X G x_is_word, k_is_word, B_is_word⟩
  have G_takes : Cal l.prog w K mg base "takes" 1 (spD K W (f_takes) 1) := ⟨_, _, _, ok_takes F_takes T , PySem.W.mg_of X G x_takes, k_takes, B_takes⟩
  have G_is_row : Cal l.prog w K mg base "is_row" 4 (spD K W (f_is_row) 1) := ⟨_, _, _, ok_is_row F_is_row T G_is_word G_takes, PySem.W.mg_of X G x_is_row, k_is_row, B_is_row⟩
  have G_check_chart : Cal l.prog w K mg base "check_chart" 5 (spD K W (f_check_chart) 1) := ⟨_, _, _, ok_check_chart F_check_chart T G_is_row, PySem.W.mg_of X G x_check_chart, k_check_chart, B_check_chart⟩
  have G_makes : Cal l.prog w K mg base "makes" 1 (spD K W (f_makes) 1) := ⟨_, _, _, ok_makes F_makes T , PySem.W.mg_of X G x_makes, k_makes, B_makes⟩
  have G_is_even : Cal l.prog w K mg base "is_even" 2 (spD K W (f_is_even) 1) := ⟨_, _, _, ok_is_even F_is_even T G_makes G_takes, PySem.W.mg_of X G x_is_even, k_is_even, B_is_even⟩
  have G_is_number : Cal l.prog w K mg base "is_number" 1 (spD K W (f_is_number) 1) := ⟨_, _, _, ok_is_number F_is_number T , PySem.W.mg_of X G x_is_number, k_is_number, B_is_number⟩
  have G_is_line : Cal l.prog w K mg base "is_line" 2 (spD K W (f_is_line) 1) := ⟨_, _, _, ok_is_line F_is_line T G_is_number, PySem.W.mg_of X G x_is_line, k_is_line, B_is_line⟩
  have G_change_of : Cal l.prog w K mg base "change_of" 2 (spD K W (f_change_of) 1) := ⟨_, _, _, ok_change_of F_change_of T G_makes G_takes, PySem.W.mg_of X G x_change_of, k_change_of, B_change_of⟩
  have G_round_change : Cal l.prog w K mg base "round_change" 3 (spD K W (f_round_change) 1) := ⟨_, _, _, ok_round_change F_round_change T G_change_of, PySem.W.mg_of X G x_round_change, k_round_change, B_round_change⟩
  have G_is_part : Cal l.prog w K mg base "is_part" 5 (spD K W (f_is_part) 1) := ⟨_, _, _, ok_is_part F_is_part T G_is_even G_is_line G_is_row G_round_change, PySem.W.mg_of X G x_is_part, k_is_part, B_is_part⟩
  have G_is_constant : Cal l.prog w K mg base "is_constant" 6 (spD K W (f_is_constant) 1) := ⟨_, _, _, ok_is_constant F_is_constant T G_is_part, PySem.W.mg_of X G x_is_constant, k_is_constant, B_is_constant⟩
  have G_periods : Cal l.prog w K mg base "periods" 1 (spD K W (f_periods) 1) := ⟨_, _, _, ok_periods F_periods T , PySem.W.mg_of X G x_periods, k_periods, B_periods⟩
  have G_repeat_cost : Cal l.prog w K mg base "repeat_cost" 1 (spD K W (f_repeat_cost) 2) := ⟨_, _, _, ok_repeat_cost F_repeat_cost T , PySem.W.mg_of X G x_repeat_cost, k_repeat_cost, B_repeat_cost⟩
  have G_ways_below : Cal l.prog w K mg base "ways_below" 2 (spD K W (f_ways_below) 4) := ⟨_, _, _, ok_ways_below F_ways_below T G_periods G_repeat_cost, PySem.W.mg_of X G x_ways_below, k_ways_below, B_ways_below⟩
  have G__filled : Cal l.prog w K mg base "_filled" 3 (spD K W (f__filled) 1) := ⟨_, _, _, ok__filled F__filled T G_ways_below TBc hTb (fun cdv h => (cdv_eq h).trans hcd), PySem.W.mg_of X G x__filled, k__filled, B__filled⟩
  have G_check_short : Cal l.prog w K mg base "check_short" 4 (spD K W (f_check_short) 1) := ⟨_, _, _, ok_check_short F_check_short T G_is_word, PySem.W.mg_of X G x_check_short, k_check_short, B_check_short⟩
  have G_least_cost : Cal l.prog w K mg base "least_cost" 5 (spD K W (f_least_cost) 1) := ⟨_, _, _, ok_least_cost F_least_cost T G__filled G_check_short, PySem.W.mg_of X G x_least_cost, k_least_cost, B_least_cost⟩
  have G_row_cost : Cal l.prog w K mg base "row_cost" 6 (spD K W (f_row_cost) 1) := ⟨_, _, _, ok_row_cost F_row_cost T G_least_cost, PySem.W.mg_of X G x_row_cost, k_row_cost, B_row_cost⟩
  have G_rows_of : Cal l.prog w K mg base "rows_of" 1 (spD K W (f_rows_of) 1) := ⟨_, _, _, ok_rows_of F_rows_of T , PySem.W.mg_of X G x_rows_of, k_rows_of, B_rows_of⟩
  have G_part_cost : Cal l.prog w K mg base "part_cost" 7 (spD K W (f_part_cost) 1) := ⟨_, _, _, ok_part_cost F_part_cost T G_row_cost G_rows_of, PySem.W.mg_of X G x_part_cost, k_part_cost, B_part_cost⟩
  have G_parts_from : Cal l.prog w K mg base "parts_from" 6 (spD K W (f_parts_from) 2) := ⟨_, _, _, ok_parts_from F_parts_from T G_is_even G_is_part, PySem.W.mg_of X G x_parts_from, k_parts_from, B_parts_from⟩
  have G_unrolled : Cal l.prog w K mg base "unrolled" 2 (spD K W (f_unrolled) 1) := ⟨_, _, _, ok_unrolled F_unrolled T G_rows_of, PySem.W.mg_of X G x_unrolled, k_unrolled, B_unrolled⟩
  have G_Chart_shows : CalM l.prog w K mg base (W.cl 3) "shows" 8 (spD K W (f_Chart_shows) 2) := ⟨_, _, _, ok_Chart_shows F_Chart_shows T G_check_chart G_is_constant G_part_cost G_parts_from G_unrolled, by rw [hW]; exact ⟨x_Chart_shows, i_Chart_shows, k_Chart_shows⟩, B_Chart_shows⟩
  have G__law_all_rows : Cal l.prog w K mg base "_law_all_rows" 1 (spD K W (f__law_all_rows) 2) := ⟨_, _, _, ok__law_all_rows F__law_all_rows T , PySem.W.mg_of X G x__law_all_rows, k__law_all_rows, B__law_all_rows⟩
  have G__law_makes : Cal l.prog w K mg base "_law_makes" 1 (spD K W (f__law_makes) 2) := ⟨_, _, _, ok__law_makes F__law_makes T , PySem.W.mg_of X G x__law_makes, k__law_makes, B__law_makes⟩
  have G__law_takes : Cal l.prog w K mg base "_law_takes" 1 (spD K W (f__law_takes) 2) := ⟨_, _, _, ok__law_takes F__law_takes T , PySem.W.mg_of X G x__law_takes, k__law_takes, B__law_takes⟩
  have G__law_blocks : Cal l.prog w K mg base "_law_blocks" 2 (spD K W (f__law_blocks) 3) := ⟨_, _, _, ok__law_blocks F__law_blocks T G__law_makes G__law_takes, PySem.W.mg_of X G x__law_blocks, k__law_blocks, B__law_blocks⟩
  have G__law_table_cost : Cal l.prog w K mg base "_law_table_cost" 1 (spD K W (f__law_table_cost) 1) := ⟨_, _, _, ok__law_table_cost F__law_table_cost T , PySem.W.mg_of X G x__law_table_cost, k__law_table_cost, B__law_table_cost⟩
  have G__law_cost : Cal l.prog w K mg base "_law_cost" 2 (spD K W (f__law_cost) 1) := ⟨_, _, _, ok__law_cost F__law_cost T G__law_table_cost, PySem.W.mg_of X G x__law_cost, k__law_cost, B__law_cost⟩
  have G__law_best : Cal l.prog w K mg base "_law_best" 3 (spD K W (f__law_best) 2) := ⟨_, _, _, ok__law_best F__law_best T G__law_blocks G__law_cost, PySem.W.mg_of X G x__law_best, k__law_best, B__law_best⟩
  have G__law_number : Cal l.prog w K mg base "_law_number" 1 (spD K W (f__law_number W) 2) := ⟨_, _, _, ok__law_number F__law_number T , PySem.W.mg_of X G x__law_number, k__law_number, B__law_number⟩
  have G__law_take : Cal l.prog w K mg base "_law_take" 2 (spD K W (f__law_take W) 2) := ⟨_, _, _, ok__law_take F__law_take T G__law_number, PySem.W.mg_of X G x__law_take, k__law_take, B__law_take⟩
  have G__law_pick : Cal l.prog w K mg base "_law_pick" 3 (spD K W (f__law_pick W) 2) := ⟨_, _, _, ok__law_pick F__law_pick T G__law_take, PySem.W.mg_of X G x__law_pick, k__law_pick, B__law_pick⟩
  have G__law_group : Cal l.prog w K mg base "_law_group" 4 (spD K W (f__law_group W) 3) := ⟨_, _, _, ok__law_group F__law_group T G__law_pick, PySem.W.mg_of X G x__law_group, k__law_group, B__law_group⟩
  have G__law_cell : Cal l.prog w K mg base "_law_cell" 4 (spD K W (f__law_cell W) 2) := ⟨_, _, _, ok__law_cell F__law_cell T G__law_pick, PySem.W.mg_of X G x__law_cell, k__law_cell, B__law_cell⟩
  have G__law_word : Cal l.prog w K mg base "_law_word" 5 (spD K W (f__law_word W) 3) := ⟨_, _, _, ok__law_word F__law_word T G__law_cell G__law_take, PySem.W.mg_of X G x__law_word, k__law_word, B__law_word⟩
  have G__law_chart : Cal l.prog w K mg base "_law_chart" 6 (spD K W (f__law_chart W) 1) := ⟨_, _, _, ok__law_chart F__law_chart T G__law_group G__law_pick G__law_take G__law_word, PySem.W.mg_of X G x__law_chart, k__law_chart, B__law_chart⟩
  have G__law_kinds : Cal l.prog w K mg base "_law_kinds" 1 (spD K W (f__law_kinds) 0) := ⟨_, _, _, ok__law_kinds F__law_kinds T , PySem.W.mg_of X G x__law_kinds, k__law_kinds, B__law_kinds⟩
  have G__law_price : Cal l.prog w K mg base "_law_price" 3 (spD K W (f__law_price) 1) := ⟨_, _, _, ok__law_price F__law_price T G__law_cost, PySem.W.mg_of X G x__law_price, k__law_price, B__law_price⟩
  have G_cheapest_parts : Cal l.prog w K mg base "cheapest_parts" 8 (spD K W (f_cheapest_parts) 1) := ⟨_, _, _, ok_cheapest_parts F_cheapest_parts T G_check_chart G_part_cost G_parts_from G_Chart___init__, PySem.W.mg_of X G x_cheapest_parts, k_cheapest_parts, B_cheapest_parts⟩
  exact body_law F_law T G__law_all_rows G__law_best G__law_chart G__law_kinds G__law_price G__law_take G_cheapest_parts G_Chart___init__ G_Chart_shows (Nat.le_refl _) cdv
end P_k47_whole_charts
open PySem PySem.W PyProof.Rows in
set_option maxRecDepth 100000 in
set_option maxHeartbeats 0 in
theorem PySem.Challenge.cw_allstitches_k47_whole_charts_holds : PySem.Challenge.rw_allstitches_k47_whole_charts.Holds := by
  w_on; o_law; k_head; (case hw => w_witness2)
  k_fill
  refine DL.law_walkT (l := PySem.Challenge.rw_allstitches_k47_whole_charts) (k := 9) (x := "_law_script") (c := ?cc) (T := (("_filled" : Str) ++ (".<locals>." : Str)) ++ ("<lambda>" : Str)) rfl rfl ⟨rfl, by decide, by decide⟩ (fun w h Y => PySem.W.km_in_of Y) (fun w h Y => PySem.W.km_tabs_of Y _ (List.mem_singleton.mpr rfl)) ?hL ?hC ?F
  case F =>
    intro w mg fa h KX G hmg
    refine' P_k47_whole_charts.all_mk KX G hmg ?aC0 ?aC1 ?aC2 ?aC3 ?xb1 ?kc1 ?sb1 ?ty1 ?hd1 ?xb2 ?kc2 ?sb2 ?ty2 ?hd2 ?se1_2 ?se2_2 ?pg3 ?hd3 ?po3 ?sa3 ?mk3 ?kc3 ?n3_bounds ?n3_parts ?b_abs ?b_all ?b_bool ?b_int ?b_isinstance ?b_len ?b_list ?b_min ?b_range ?b_str ?b_sum ?b_tuple ?b_zip ?c_MOST ?c_MOST_BASE ?c_MOST_CELLS ?c_MOST_CHANGE ?c_MOST_CHART ?c_MOST_REST ?c_MOST_RISE ?c_MOST_ROWS ?kt_KINDS ?kd_KINDS ?kv_KINDS ?x_Chart___init__ ?i_Chart___init__ ?l_Chart___init__ ?d_Chart___init__ ?k_Chart___init__ ?x_is_kind ?l_is_kind ?d_is_kind ?k_is_kind ?x_is_yarn ?l_is_yarn ?d_is_yarn ?k_is_yarn ?x_is_cell ?l_is_cell ?d_is_cell ?k_is_cell ?x_is_word ?l_is_word ?d_is_word ?k_is_word ?x_takes ?l_takes ?d_takes ?k_takes ?x_is_row ?l_is_row ?d_is_row ?k_is_row ?x_check_chart ?l_check_chart ?d_check_chart ?k_check_chart ?x_makes ?l_makes ?d_makes ?k_makes ?x_is_even ?l_is_even ?d_is_even ?k_is_even ?x_is_number ?l_is_number ?d_is_number ?k_is_number ?x_is_line ?l_is_line ?d_is_line ?k_is_line ?x_change_of ?l_change_of ?d_change_of ?k_change_of ?x_round_change ?l_round_change ?d_round_change ?k_round_change ?x_is_part ?l_is_part ?d_is_part ?k_is_part ?x_is_constant ?l_is_constant ?d_is_constant ?k_is_constant ?x_periods ?l_periods ?d_periods ?k_periods ?x_repeat_cost ?l_repeat_cost ?d_repeat_cost ?k_repeat_cost ?x_ways_below ?l_ways_below ?d_ways_below ?k_ways_below ?x__filled ?l__filled ?d__filled ?k__filled ?x_check_short ?l_check_short ?d_check_short ?k_check_short ?x_least_cost ?l_least_cost ?d_least_cost ?k_least_cost ?x_row_cost ?l_row_cost ?d_row_cost ?k_row_cost ?x_rows_of ?l_rows_of ?d_rows_of ?k_rows_of ?x_part_cost ?l_part_cost ?d_part_cost ?k_part_cost ?x_parts_from ?l_parts_from ?d_parts_from ?k_parts_from ?x_unrolled ?l_unrolled ?d_unrolled ?k_unrolled ?x_Chart_shows ?i_Chart_shows ?l_Chart_shows ?d_Chart_shows ?k_Chart_shows ?x__law_all_rows ?l__law_all_rows ?d__law_all_rows ?k__law_all_rows ?x__law_makes ?l__law_makes ?d__law_makes ?k__law_makes ?x__law_takes ?l__law_takes ?d__law_takes ?k__law_takes ?x__law_blocks ?l__law_blocks ?d__law_blocks ?k__law_blocks ?x__law_table_cost ?l__law_table_cost ?d__law_table_cost ?k__law_table_cost ?x__law_cost ?l__law_cost ?d__law_cost ?k__law_cost ?x__law_best ?l__law_best ?d__law_best ?k__law_best ?x__law_number ?l__law_number ?d__law_number ?k__law_number ?x__law_take ?l__law_take ?d__law_take ?k__law_take ?x__law_pick ?l__law_pick ?d__law_pick ?k__law_pick ?x__law_group ?l__law_group ?d__law_group ?k__law_group ?x__law_cell ?l__law_cell ?d__law_cell ?k__law_cell ?x__law_word ?l__law_word ?d__law_word ?k__law_word ?x__law_chart ?l__law_chart ?d__law_chart ?k__law_chart ?x__law_kinds ?l__law_kinds ?d__law_kinds ?k__law_kinds ?x__law_price ?l__law_price ?d__law_price ?k__law_price ?x_cheapest_parts ?l_cheapest_parts ?d_cheapest_parts ?k_cheapest_parts ?x_law ?l_law ?d_law ?k_law ?hcd
    (case aC0 => k_is)
    (case aC1 => k_is)
    (case aC2 => k_is)
    (case aC3 => k_is)
    (case xb1 => k_exc)
    (case kc1 => k_is)
    (case sb1 => k_is)
    (case ty1 => k_is)
    (case hd1 => k_is)
    (case xb2 => k_exc)
    (case kc2 => k_is)
    (case sb2 => k_is)
    (case ty2 => k_is)
    (case hd2 => k_is)
    (case se1_2 => k_is)
    (case se2_2 => k_is)
    (case pg3 => k_is)
    (case hd3 => k_is)
    (case po3 => k_is)
    (case sa3 => k_is)
    (case mk3 => k_is)
    (case kc3 => k_is)
    (case n3_bounds => k_is)
    (case n3_parts => k_is)
    (case b_abs => k_is)
    (case b_all => k_is)
    (case b_bool => k_is)
    (case b_int => k_is)
    (case b_isinstance => k_is)
    (case b_len => k_is)
    (case b_list => k_is)
    (case b_min => k_is)
    (case b_range => k_is)
    (case b_str => k_is)
    (case b_sum => k_is)
    (case b_tuple => k_is)
    (case b_zip => k_is)
    (case c_MOST => k_is)
    (case c_MOST_BASE => k_is)
    (case c_MOST_CELLS => k_is)
    (case c_MOST_CHANGE => k_is)
    (case c_MOST_CHART => k_is)
    (case c_MOST_REST => k_is)
    (case c_MOST_RISE => k_is)
    (case c_MOST_ROWS => k_is)
    (case kt_KINDS => k_is)
    (case kd_KINDS => kernel_rfl)
    (case kv_KINDS => kernel_rfl)
    (case x_Chart___init__ => k_is)
    (case i_Chart___init__ => k_is)
    (case l_Chart___init__ => k_is)
    (case d_Chart___init__ => k_is)
    (case k_Chart___init__ => k_is)
    (case x_is_kind => k_is)
    (case l_is_kind => k_is)
    (case d_is_kind => k_is)
    (case k_is_kind => k_is)
    (case x_is_yarn => k_is)
    (case l_is_yarn => k_is)
    (case d_is_yarn => k_is)
    (case k_is_yarn => k_is)
    (case x_is_cell => k_is)
    (case l_is_cell => k_is)
    (case d_is_cell => k_is)
    (case k_is_cell => k_is)
    (case x_is_word => k_is)
    (case l_is_word => k_is)
    (case d_is_word => k_is)
    (case k_is_word => k_is)
    (case x_takes => k_is)
    (case l_takes => k_is)
    (case d_takes => k_is)
    (case k_takes => k_is)
    (case x_is_row => k_is)
    (case l_is_row => k_is)
    (case d_is_row => k_is)
    (case k_is_row => k_is)
    (case x_check_chart => k_is)
    (case l_check_chart => k_is)
    (case d_check_chart => k_is)
    (case k_check_chart => k_is)
    (case x_makes => k_is)
    (case l_makes => k_is)
    (case d_makes => k_is)
    (case k_makes => k_is)
    (case x_is_even => k_is)
    (case l_is_even => k_is)
    (case d_is_even => k_is)
    (case k_is_even => k_is)
    (case x_is_number => k_is)
    (case l_is_number => k_is)
    (case d_is_number => k_is)
    (case k_is_number => k_is)
    (case x_is_line => k_is)
    (case l_is_line => k_is)
    (case d_is_line => k_is)
    (case k_is_line => k_is)
    (case x_change_of => k_is)
    (case l_change_of => k_is)
    (case d_change_of => k_is)
    (case k_change_of => k_is)
    (case x_round_change => k_is)
    (case l_round_change => k_is)
    (case d_round_change => k_is)
    (case k_round_change => k_is)
    (case x_is_part => k_is)
    (case l_is_part => k_is)
    (case d_is_part => k_is)
    (case k_is_part => k_is)
    (case x_is_constant => k_is)
    (case l_is_constant => k_is)
    (case d_is_constant => k_is)
    (case k_is_constant => k_is)
    (case x_periods => k_is)
    (case l_periods => k_is)
    (case d_periods => k_is)
    (case k_periods => k_is)
    (case x_repeat_cost => k_is)
    (case l_repeat_cost => k_is)
    (case d_repeat_cost => k_is)
    (case k_repeat_cost => k_is)
    (case x_ways_below => k_is)
    (case l_ways_below => k_is)
    (case d_ways_below => k_is)
    (case k_ways_below => k_is)
    (case x__filled => k_is)
    (case l__filled => k_is)
    (case d__filled => k_is)
    (case k__filled => k_is)
    (case x_check_short => k_is)
    (case l_check_short => k_is)
    (case d_check_short => k_is)
    (case k_check_short => k_is)
    (case x_least_cost => k_is)
    (case l_least_cost => k_is)
    (case d_least_cost => k_is)
    (case k_least_cost => k_is)
    (case x_row_cost => k_is)
    (case l_row_cost => k_is)
    (case d_row_cost => k_is)
    (case k_row_cost => k_is)
    (case x_rows_of => k_is)
    (case l_rows_of => k_is)
    (case d_rows_of => k_is)
    (case k_rows_of => k_is)
    (case x_part_cost => k_is)
    (case l_part_cost => k_is)
    (case d_part_cost => k_is)
    (case k_part_cost => k_is)
    (case x_parts_from => k_is)
    (case l_parts_from => k_is)
    (case d_parts_from => k_is)
    (case k_parts_from => k_is)
    (case x_unrolled => k_is)
    (case l_unrolled => k_is)
    (case d_unrolled => k_is)
    (case k_unrolled => k_is)
    (case x_Chart_shows => k_is)
    (case i_Chart_shows => k_is)
    (case l_Chart_shows => k_is)
    (case d_Chart_shows => k_is)
    (case k_Chart_shows => k_is)
    (case x__law_all_rows => k_is)
    (case l__law_all_rows => k_is)
    (case d__law_all_rows => k_is)
    (case k__law_all_rows => k_is)
    (case x__law_makes => k_is)
    (case l__law_makes => k_is)
    (case d__law_makes => k_is)
    (case k__law_makes => k_is)
    (case x__law_takes => k_is)
    (case l__law_takes => k_is)
    (case d__law_takes => k_is)
    (case k__law_takes => k_is)
    (case x__law_blocks => k_is)
    (case l__law_blocks => k_is)
    (case d__law_blocks => k_is)
    (case k__law_blocks => k_is)
    (case x__law_table_cost => k_is)
    (case l__law_table_cost => k_is)
    (case d__law_table_cost => k_is)
    (case k__law_table_cost => k_is)
    (case x__law_cost => k_is)
    (case l__law_cost => k_is)
    (case d__law_cost => k_is)
    (case k__law_cost => k_is)
    (case x__law_best => k_is)
    (case l__law_best => k_is)
    (case d__law_best => k_is)
    (case k__law_best => k_is)
    (case x__law_number => k_is)
    (case l__law_number => k_is)
    (case d__law_number => k_is)
    (case k__law_number => k_is)
    (case x__law_take => k_is)
    (case l__law_take => k_is)
    (case d__law_take => k_is)
    (case k__law_take => k_is)
    (case x__law_pick => k_is)
    (case l__law_pick => k_is)
    (case d__law_pick => k_is)
    (case k__law_pick => k_is)
    (case x__law_group => k_is)
    (case l__law_group => k_is)
    (case d__law_group => k_is)
    (case k__law_group => k_is)
    (case x__law_cell => k_is)
    (case l__law_cell => k_is)
    (case d__law_cell => k_is)
    (case k__law_cell => k_is)
    (case x__law_word => k_is)
    (case l__law_word => k_is)
    (case d__law_word => k_is)
    (case k__law_word => k_is)
    (case x__law_chart => k_is)
    (case l__law_chart => k_is)
    (case d__law_chart => k_is)
    (case k__law_chart => k_is)
    (case x__law_kinds => k_is)
    (case l__law_kinds => k_is)
    (case d__law_kinds => k_is)
    (case k__law_kinds => k_is)
    (case x__law_price => k_is)
    (case l__law_price => k_is)
    (case d__law_price => k_is)
    (case k__law_price => k_is)
    (case x_cheapest_parts => k_is)
    (case l_cheapest_parts => k_is)
    (case d_cheapest_parts => k_is)
    (case k_cheapest_parts => k_is)
    (case x_law => k_is)
    (case l_law => k_is)
    (case d_law => k_is)
    (case k_law => k_is)
    (case hcd => rfl)
  case hL => intro p; kernel_rfl
  case hC => intro p; kernel_rfl
end
