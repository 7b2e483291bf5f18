import PyProof.Rows.All
import Wide.All
import OpenK.AllK
import Wide.FinOn
import HandS.ForMost
import HandS.TupMul
import HandS.TupAny
import HandS.Style
import HandS.IsInst
import HandS.Zip
import HandS.Conv
import HandS.More
import HandS.Flow
import HandS.HeadHook3
import KE.KRevSl
import HandS.SortInts
import PySem.Challenge.RW_allstitches_k02_whole_kinds

section
set_option Elab.async false
set_option linter.all false
set_option autoImplicit false
set_option maxRecDepth 100000
/-! A data layer over the hand layer: values as plain data, environments as lists of slots, each def as a plain function. -/
namespace DL
open PySem PySem.Spec L2

/-- a value with all that hangs on it -/
inductive D where
  | non | bl (b : Bool) | int (i : Int) | str (x : Str)
  | tup (xs : List D) | lst (xs : List D)
  | dic (ks : List Key) (vs : List D)
  | dit (ks : List (List Key)) (vs : List D)
  | obj (c : Nat) (ks : List Str) (vs : List D)
  | drw | scr

/-- the classes' addresses, the script -/
structure Wd where
  cl : Nat → Addr
  ns : List Int

mutual
inductive Den (K : PySem.W.Frag) (W : Wd) (dr : Option Addr) (F : Hp) : V → D → Prop
  | non : Den K W dr F .non .non
  | bl (b : Bool) : Den K W dr F (.bl b) (.bl b)
  | int (i : Int) : Den K W dr F (.int i) (.int i)
  | str (x : Str) : Den K W dr F (.str x) (.str x)
  | tup {a : Addr} {vs : List V} {ds : List D} : SqT K F a vs → Dens K W dr F vs ds → Den K W dr F (.ref a) (.tup ds)
  | lst {a : Addr} {vs : List V} {ds : List D} : F a = some (.lst vs) → Dens K W dr F vs ds → Den K W dr F (.ref a) (.lst ds)
  | scr {a : Addr} : SqL K F a (W.ns.map V.int) → Den K W dr F (.ref a) .scr
  | dic {a : Addr} {ks : List Key} {vs : List V} {ds : List D} : ks.length = vs.length → Rd F a (.dK (ks.zip vs)) → Dens K W dr F vs ds → Den K W dr F (.ref a) (.dic ks ds)
  | dit {a : Addr} {ks : List (List Key)} {vs : List V} {ds : List D} : ks.length = vs.length → Rd F a (.dT (ks.zip vs)) → Dens K W dr F vs ds → Den K W dr F (.ref a) (.dit ks ds)
  | obj {a dx : Addr} {c : Nat} {ks : List Str} {vs : List V} {ds : List D} : ks.length = vs.length → F a = some (.ins (W.cl c) dx (ks.zip vs)) → Dens K W dr F vs ds → Den K W dr F (.ref a) (.obj c ks ds)
  | drw {a : Addr} : dr = some a → Den K W dr F (.ref a) .drw
inductive Dens (K : PySem.W.Frag) (W : Wd) (dr : Option Addr) (F : Hp) : List V → List D → Prop
  | nil : Dens K W dr F [] []
  | cons {v : V} {vs : List V} {d : D} {ds : List D} : Den K W dr F v d → Dens K W dr F vs ds → Dens K W dr F (v :: vs) (d :: ds)
end

/-- F is part of H -/
def Sub (F H : Hp) : Prop := ∀ a o, F a = some o → H a = some o
theorem Sub.refl (F : Hp) : Sub F F := fun _ _ h => h
theorem Sub.trans {F G H : Hp} (a : Sub F G) (b : Sub G H) : Sub F H := fun x o h => b x o (a x o h)
theorem Sub.rd {F G : Hp} (s : Sub F G) {a : Addr} {u : HO} (h : Rd F a u) : Rd G a u := by
  rcases h with h | ⟨o, h⟩
  · exact .inl (s _ _ h)
  · exact .inr ⟨o, s _ _ h⟩
theorem Sub.sqL {K : PySem.W.Frag} {F G : Hp} (s : Sub F G) {a : Addr} {xs : List V} (h : SqL K F a xs) : SqL K G a xs := h.imp s.rd id
theorem Sub.sqT {K : PySem.W.Frag} {F G : Hp} (s : Sub F G) {a : Addr} {xs : List V} (h : SqT K F a xs) : SqT K G a xs := h.imp s.rd id
theorem Sub.new {F H : Hp} (s : Sub F H) {p : Addr} {o : HO} (hp : H p = none) : Sub F (upd F p o) := fun a u h => by
  have hF : F p = none := by
    cases e : F p with
    | none => rfl
    | some z => rw [s _ _ e] at hp; cases hp
  rw [upd_ne (ne_of_none h hF)]
  exact h

section
variable {K : PySem.W.Frag} {W : Wd} {dr dr' : Option Addr} {F G : Hp}
mutual
theorem Den.mono (s : Sub F G) (e : ∀ a, dr = some a → dr' = some a) : ∀ {v : V} {d : D}, Den K W dr F v d → Den K W dr' G v d
  | _, _, .non => .non
  | _, _, .bl b => .bl b
  | _, _, .int i => .int i
  | _, _, .str x => .str x
  | _, _, .tup h r => .tup (s.sqT h) (Dens.mono s e r)
  | _, _, .lst h r => .lst (s _ _ h) (Dens.mono s e r)
  | _, _, .scr h => .scr (s.sqL h)
  | _, _, .dic l h r => .dic l (s.rd h) (Dens.mono s e r)
  | _, _, .dit l h r => .dit l (s.rd h) (Dens.mono s e r)
  | _, _, .obj l h r => .obj l (s _ _ h) (Dens.mono s e r)
  | _, _, .drw h => .drw (e _ h)
theorem Dens.mono (s : Sub F G) (e : ∀ a, dr = some a → dr' = some a) : ∀ {vs : List V} {ds : List D}, Dens K W dr F vs ds → Dens K W dr' G vs ds
  | _, _, .nil => .nil
  | _, _, .cons h r => .cons (Den.mono s e h) (Dens.mono s e r)
end
theorem Dens.length : ∀ {vs : List V} {ds : List D}, Dens K W dr F vs ds → vs.length = ds.length
  | _, _, .nil => rfl
  | _, _, .cons _ r => by simp [Dens.length r]
theorem Dens.get : ∀ {vs : List V} {ds : List D} {i : Nat} {d : D}, Dens K W dr F vs ds → ds[i]? = some d → ∃ v, vs[i]? = some v ∧ Den K W dr F v d
  | _, _, _, _, .nil, e => by simp at e
  | _, _, 0, _, .cons h _, e => by simp at e; subst e; exact ⟨_, rfl, h⟩
  | _, _, i + 1, _, .cons _ r, e => by
    obtain ⟨v, h1, h2⟩ := Dens.get (i := i) r (by simpa using e)
    exact ⟨v, by simpa using h1, h2⟩
theorem Dens.get' : ∀ {vs : List V} {ds : List D} {i : Nat} {v : V}, Dens K W dr F vs ds → vs[i]? = some v → ∃ d, ds[i]? = some d ∧ Den K W dr F v d
  | _, _, _, _, .nil, e => by simp at e
  | _, _, 0, _, .cons h _, e => by simp at e; subst e; exact ⟨_, rfl, h⟩
  | _, _, i + 1, _, .cons _ r, e => by
    obtain ⟨v, h1, h2⟩ := Dens.get' (i := i) r (by simpa using e)
    exact ⟨v, by simpa using h1, h2⟩
theorem Dens.append : ∀ {vs us : List V} {ds es : List D}, Dens K W dr F vs ds → Dens K W dr F us es → Dens K W dr F (vs ++ us) (ds ++ es)
  | _, _, _, _, .nil, s => s
  | _, _, _, _, .cons h r, s => .cons h (Dens.append r s)
theorem Dens.take : ∀ {vs : List V} {ds : List D} (n : Nat), Dens K W dr F vs ds → Dens K W dr F (vs.take n) (ds.take n)
  | _, _, 0, _ => .nil
  | _, _, _ + 1, .nil => .nil
  | _, _, n + 1, .cons h r => .cons h (Dens.take n r)
theorem Dens.drop : ∀ {vs : List V} {ds : List D} (n : Nat), Dens K W dr F vs ds → Dens K W dr F (vs.drop n) (ds.drop n)
  | _, _, 0, r => r
  | _, _, _ + 1, .nil => .nil
  | _, _, n + 1, .cons _ r => Dens.drop n r
theorem Dens.rep {vs : List V} {ds : List D} (h : Dens K W dr F vs ds) : ∀ k : Nat, Dens K W dr F (List.replicate k vs).flatten (List.replicate k ds).flatten
  | 0 => .nil
  | k + 1 => by
    rw [List.replicate_succ, List.replicate_succ, List.flatten_cons, List.flatten_cons]
    exact h.append (Dens.rep h k)
theorem Dens.reverse {vs : List V} {ds : List D} (h : Dens K W dr F vs ds) : Dens K W dr F vs.reverse ds.reverse := by
  induction vs generalizing ds with
  | nil => cases h; exact .nil
  | cons v vs ih =>
    cases h with
    | cons h r =>
      rw [List.reverse_cons, List.reverse_cons]
      exact (ih r).append (.cons h .nil)
theorem Dens.set : ∀ {vs : List V} {ds : List D} {v : V} {d : D} (i : Nat), Dens K W dr F vs ds → Den K W dr F v d → Dens K W dr F (vs.set i v) (ds.set i d)
  | _, _, _, _, _, .nil, _ => .nil
  | _, _, _, _, 0, .cons _ r, h => .cons h r
  | _, _, _, _, i + 1, .cons q r, h => .cons q (Dens.set i r h)
end

/-! ### computations -/
/-- what is raised: its class, its fields -/
structure Xc where
  c : Nat
  ks : List Str
  vs : List D
abbrev M (α : Type) := Int → Option (Except Xc α × Int)
def M.pure {α : Type} (a : α) : M α := fun n => some (.ok a, n)
def M.bind {α β : Type} (a : M α) (k : α → M β) : M β := fun n => match a n with
  | none => none
  | some (.ok x, n1) => k x n1
  | some (.error e, n1) => some (.error e, n1)
def M.opt {α : Type} (o : Option α) : M α := fun n => match o with
  | none => none
  | some a => some (.ok a, n)
def M.map {α β : Type} (f : α → β) (a : M α) : M β := M.bind a fun x => M.pure (f x)
theorem M.bind_ok {α β : Type} {a : M α} {k : α → M β} {n n2 : Int} {y : β} (h : M.bind a k n = some (.ok y, n2)) : ∃ x n1, a n = some (.ok x, n1) ∧ k x n1 = some (.ok y, n2) := by
  unfold M.bind at h
  split at h
  · cases h
  · exact ⟨_, _, ‹_›, h⟩
  · cases h
theorem M.opt_ok {α : Type} {o : Option α} {n n1 : Int} {x : α} (h : M.opt o n = some (.ok x, n1)) : o = some x ∧ n1 = n := by
  unfold M.opt at h
  split at h
  · cases h
  · cases h; exact ⟨rfl, rfl⟩
theorem M.pure_ok {α : Type} {a : α} {n n1 : Int} {x : α} (h : M.pure a n = some (.ok x, n1)) : a = x ∧ n1 = n := by
  unfold M.pure at h; cases h; exact ⟨rfl, rfl⟩
theorem M.bind_pure {α β : Type} (a : α) (k : α → M β) : M.bind (M.pure a) k = k a := rfl
theorem M.bind_of {α β : Type} {a : M α} {k : α → M β} {n n1 : Int} {x : α} (h : a n = some (.ok x, n1)) : M.bind a k n = k x n1 := by
  unfold M.bind; rw [h]

inductive Sl where
  | no | val (d : D) | own (d : D)
abbrev Env := List Sl
inductive Out where
  | nx (ρ : Env) | bk (ρ : Env) | ct (ρ : Env) | ret (d : D)
abbrev EX := Env → M D
abbrev EXs := Env → M (List D)
abbrev TX := Env → M Bool
abbrev SX := Env → M Out

/-! ### what a state means -/
/-- a def's run: the draw's cell, the script's address, the heap and the known part at the entry, what may be changed besides -/
structure Fr where
  dr : Option Addr
  sa : Addr
  H0 : Hp
  F0 : Hp
  ex : Addr → Prop

/-- what may be changed, at a -/
def MDen (K : PySem.W.Frag) (W : Wd) (dr : Option Addr) (F H : Hp) (a : Addr) : D → Prop
  | .lst ds => ∃ vs, H a = some (.lst vs) ∧ Dens K W dr F vs ds
  | .dic ks ds => ∃ vs, ks.length = vs.length ∧ H a = some (.dK (ks.zip vs)) ∧ Dens K W dr F vs ds
  | .dit ks ds => ∃ vs, ks.length = vs.length ∧ H a = some (.dT (ks.zip vs)) ∧ Dens K W dr F vs ds
  | .obj c ks ds => ∃ dx vs, ks.length = vs.length ∧ H a = some (.ins (W.cl c) dx (ks.zip vs)) ∧ Dens K W dr F vs ds
  | _ => False
theorem MDen.mono {K : PySem.W.Frag} {W : Wd} {dr : Option Addr} {F F' H H' : Hp} {a : Addr} {d : D} (s : Sub F F') (h : ∀ o, H a = some o → H' a = some o) (m : MDen K W dr F H a d) : MDen K W dr F' H' a d := by
  cases d with
  | lst ds => obtain ⟨vs, e, r⟩ := m; exact ⟨vs, h _ e, r.mono s fun _ z => z⟩
  | dic ks ds => obtain ⟨vs, l, e, r⟩ := m; exact ⟨vs, l, h _ e, r.mono s fun _ z => z⟩
  | dit ks ds => obtain ⟨vs, l, e, r⟩ := m; exact ⟨vs, l, h _ e, r.mono s fun _ z => z⟩
  | obj c ks ds => obtain ⟨dx, vs, l, e, r⟩ := m; exact ⟨dx, vs, l, h _ e, r.mono s fun _ z => z⟩
  | non => exact m.elim
  | bl _ => exact m.elim
  | int _ => exact m.elim
  | str _ => exact m.elim
  | tup _ => exact m.elim
  | drw => exact m.elim
  | scr => exact m.elim
theorem MDen.there {K : PySem.W.Frag} {W : Wd} {dr : Option Addr} {F H : Hp} {a : Addr} {d : D} (m : MDen K W dr F H a d) : ∃ o, H a = some o := by
  cases d with
  | lst ds => obtain ⟨vs, e, r⟩ := m; exact ⟨_, e⟩
  | dic ks ds => obtain ⟨vs, l, e, r⟩ := m; exact ⟨_, e⟩
  | dit ks ds => obtain ⟨vs, l, e, r⟩ := m; exact ⟨_, e⟩
  | obj c ks ds => obtain ⟨dx, vs, l, e, r⟩ := m; exact ⟨_, e⟩
  | non => exact m.elim
  | bl _ => exact m.elim
  | int _ => exact m.elim
  | str _ => exact m.elim
  | tup _ => exact m.elim
  | drw => exact m.elim
  | scr => exact m.elim

structure Core (K : PySem.W.Frag) (W : Wd) (fr : Fr) (F H : Hp) (n : Int) : Prop where
  sub : Sub F H
  base : ∀ a o, fr.H0 a = some o → fr.dr ≠ some a → ¬ fr.ex a → H a = some o
  f0 : Sub fr.F0 F
  new : ∀ a o, fr.H0 a = some o → fr.F0 a = none → F a = none
  there : ∀ a o, fr.H0 a = some o → ∃ o', H a = some o'
  draw : ∀ a, fr.dr = some a → F a = none ∧ H a = some (.lst [.ref fr.sa, .int n]) ∧ SqL K F fr.sa (W.ns.map V.int)

/-- an instance -/
def isO : D → Bool | .obj _ _ _ => true | _ => false
structure Slots (K : PySem.W.Frag) (W : Wd) (fr : Fr) (F H : Hp) (σ : St) (ρ : Env) (ad : Nat → Addr) : Prop where
  len : σ.length = ρ.length
  val : ∀ (i : Nat) (d : D), ρ[i]? = some (Sl.val d) → ∃ v, σ[i]? = some (some v) ∧ Den K W fr.dr F v d
  own : ∀ (i : Nat) (d : D), ρ[i]? = some (Sl.own d) → σ[i]? = some (some (.ref (ad i))) ∧ F (ad i) = none ∧ fr.dr ≠ some (ad i) ∧ (fr.H0 (ad i) = none ∨ fr.ex (ad i)) ∧ MDen K W fr.dr F H (ad i) d ∧ ((isO d = true ∧ fr.ex (ad i)) ∨ (isO d = false ∧ fr.H0 (ad i) = none))
  inj : ∀ (i j : Nat) (d e : D), ρ[i]? = some (Sl.own d) → ρ[j]? = some (Sl.own e) → ad i = ad j → i = j

structure Rel (K : PySem.W.Frag) (W : Wd) (fr : Fr) (F H : Hp) (σ : St) (ρ : Env) (n : Int) : Prop where
  core : Core K W fr F H n
  slots : ∃ ad, Slots K W fr F H σ ρ ad

section
variable {K : PySem.W.Frag} {W : Wd} {fr : Fr} {F F' H H' : Hp} {σ σ' : St} {ρ ρ' : Env} {n n' : Int}
theorem Core.noF (c : Core K W fr F H n) {p : Addr} (hp : H p = none) : F p = none := by
  cases e : F p with
  | none => rfl
  | some z => rw [c.sub _ _ e] at hp; cases hp
theorem Core.ndr (c : Core K W fr F H n) {p : Addr} (hp : H p = none) : fr.dr ≠ some p := fun e => by
  rw [(c.draw p e).2.1] at hp; cases hp
theorem Core.noH0 (c : Core K W fr F H n) {p : Addr} (hp : H p = none) : fr.H0 p = none := by
  cases e : fr.H0 p with
  | none => rfl
  | some z => obtain ⟨o, h⟩ := c.there _ _ e; rw [h] at hp; cases hp
/-- a new object, known from now on (k) or not -/
theorem Core.fresh (c : Core K W fr F H n) {p : Addr} {o : HO} (hp : H p = none) : Core K W fr (upd F p o) (upd H p o) n where
  sub := fun a u h => by
    by_cases e : a = p
    · subst e; rw [upd_same] at h ⊢; exact h
    · rw [upd_ne e] at h ⊢; exact c.sub _ _ h
  base := fun a u h1 h2 h3 => by
    have h := c.base a u h1 h2 h3
    rw [upd_ne (ne_of_none h hp)]; exact h
  f0 := c.f0.trans (c.sub.new hp)
  new := fun a u h1 h2 => by
    have e : a ≠ p := ne_of_none h1 (c.noH0 hp)
    rw [upd_ne e]; exact c.new a u h1 h2
  there := fun a u h => by
    obtain ⟨o', q⟩ := c.there a u h
    exact ⟨o', by rw [upd_ne (ne_of_none q hp)]; exact q⟩
  draw := fun a e => by
    obtain ⟨h1, h2, h3⟩ := c.draw a e
    have q : a ≠ p := ne_of_none h2 hp
    exact ⟨by rw [upd_ne q]; exact h1, by rw [upd_ne q]; exact h2, (c.sub.new hp).sqL h3⟩
/-- a new object, not known -/
theorem Core.fresh' (c : Core K W fr F H n) {p : Addr} {o : HO} (hp : H p = none) : Core K W fr F (upd H p o) n where
  sub := fun a u h => by
    have q := c.sub _ _ h
    rw [upd_ne (ne_of_none q hp)]; exact q
  base := fun a u h1 h2 h3 => by
    have h := c.base a u h1 h2 h3
    rw [upd_ne (ne_of_none h hp)]; exact h
  f0 := c.f0
  new := c.new
  there := fun a u h => by
    obtain ⟨o', q⟩ := c.there a u h
    exact ⟨o', by rw [upd_ne (ne_of_none q hp)]; exact q⟩
  draw := fun a e => by
    obtain ⟨h1, h2, h3⟩ := c.draw a e
    have q : a ≠ p := ne_of_none h2 hp
    exact ⟨h1, by rw [upd_ne q]; exact h2, h3⟩
/-- the run that begins where another one stands -/
def Fr.at (fr : Fr) (F H : Hp) : Fr := ⟨fr.dr, fr.sa, H, F, fun _ => False⟩
theorem Core.at (c : Core K W fr F H n) : Core K W (fr.at F H) F H n := ⟨c.sub, fun _ _ h _ _ => h, Sub.refl _, fun _ _ _ h => h, fun _ o h => ⟨o, h⟩, c.draw⟩
theorem Core.back (c : Core K W fr F H n) (d : Core K W (fr.at F H) F' H' n') : Core K W fr F' H' n' where
  sub := d.sub
  base := fun a o h1 h2 h3 => d.base a o (c.base a o h1 h2 h3) h2 fun z => z
  f0 := c.f0.trans d.f0
  new := fun a o h1 h2 => by
    obtain ⟨o', q⟩ := c.there a o h1
    exact d.new a o' q (c.new a o h1 h2)
  there := fun a o h => by
    obtain ⟨o', q⟩ := c.there a o h
    exact d.there a o' q
  draw := d.draw
/-- the slots stand while what they lean on stands -/
theorem Slots.keep {ad : Nat → Addr} (s : Slots K W fr F H σ ρ ad) (c : Core K W fr F H n) (f : Sub F F') (h : ∀ a o, H a = some o → fr.dr ≠ some a → H' a = some o) (g : ∀ a o, H a = some o → F a = none → F' a = none) : Slots K W fr F' H' σ ρ ad where
  len := s.len
  val := fun i d e => by
    obtain ⟨v, h1, h2⟩ := s.val i d e
    exact ⟨v, h1, h2.mono f fun _ z => z⟩
  own := fun i d e => by
    obtain ⟨h1, h2, h3, h4, h5, h6⟩ := s.own i d e
    obtain ⟨o, q⟩ := h5.there
    exact ⟨h1, g _ _ q h2, h3, h4, h5.mono f fun o z => h _ o z h3, h6⟩
  inj := s.inj
theorem Rel.keep (r : Rel K W fr F H σ ρ n) (c : Core K W fr F' H' n') (f : Sub F F') (h : ∀ a o, H a = some o → fr.dr ≠ some a → H' a = some o) (g : ∀ a o, H a = some o → F a = none → F' a = none) : Rel K W fr F' H' σ ρ n' := by
  obtain ⟨ad, s⟩ := r.slots
  exact ⟨c, ad, s.keep r.core f h g⟩
theorem Rel.fresh (r : Rel K W fr F H σ ρ n) {p : Addr} {o : HO} (hp : H p = none) : Rel K W fr (upd F p o) (upd H p o) σ ρ n :=
  r.keep (r.core.fresh hp) (r.core.sub.new hp) (fun a u h _ => by rw [upd_ne (ne_of_none h hp)]; exact h) fun a u h z => by rw [upd_ne (ne_of_none h hp)]; exact z
/-- behind a run that began here -/
theorem Rel.back (r : Rel K W fr F H σ ρ n) (d : Core K W (fr.at F H) F' H' n') : Rel K W fr F' H' σ ρ n' :=
  r.keep (r.core.back d) d.f0 (fun a o h z => d.base a o h z fun q => q) fun a o h z => d.new a o h z
end

/-! ### the judgements -/
def tD (K : PySem.W.Frag) (W : Wd) (f : EX) : TE := fun σ H Q => ∃ fr F ρ n d n', Rel K W fr F H σ ρ n ∧ f ρ n = some (.ok d, n') ∧
  ∀ F' H' v, Rel K W fr F' H' σ ρ n' → Sub F F' → Den K W fr.dr F' v d → Q v H'
def tDs (K : PySem.W.Frag) (W : Wd) (f : EXs) : TA := fun σ H Q => ∃ fr F ρ n ds n', Rel K W fr F H σ ρ n ∧ f ρ n = some (.ok ds, n') ∧
  ∀ F' H' vs, Rel K W fr F' H' σ ρ n' → Sub F F' → Dens K W fr.dr F' vs ds → Q vs H'
def tT (K : PySem.W.Frag) (W : Wd) (f : TX) : TT := fun σ H Q => ∃ fr F ρ n b n', Rel K W fr F H σ ρ n ∧ f ρ n = some (.ok b, n') ∧
  ∀ F' H', Rel K W fr F' H' σ ρ n' → Sub F F' → Q b H'
def OutK (K : PySem.W.Frag) (W : Wd) (fr : Fr) (F : Hp) (E : Ends) : Out → Int → Prop
  | .nx ρ, n => ∀ F' H' σ', Rel K W fr F' H' σ' ρ n → Sub F F' → E.nx σ' H'
  | .bk ρ, n => ∀ F' H' σ', Rel K W fr F' H' σ' ρ n → Sub F F' → E.bk σ' H'
  | .ct ρ, n => ∀ F' H' σ', Rel K W fr F' H' σ' ρ n → Sub F F' → E.ct σ' H'
  | .ret d, n => ∀ F' H' v, Core K W fr F' H' n → Sub F F' → Den K W fr.dr F' v d → E.rt v H'
def tS (K : PySem.W.Frag) (W : Wd) (g : SX) : TS := fun E σ H => ∃ fr F ρ n o n', Rel K W fr F H σ ρ n ∧ g ρ n = some (.ok o, n') ∧ OutK K W fr F E o n'
theorem OutK.mono {K : PySem.W.Frag} {W : Wd} {fr : Fr} {F F1 : Hp} {E : Ends} (s : Sub F F1) : ∀ {o : Out} {n : Int}, OutK K W fr F E o n → OutK K W fr F1 E o n
  | .nx _, _, k => fun F' H' σ' r q => k F' H' σ' r (s.trans q)
  | .bk _, _, k => fun F' H' σ' r q => k F' H' σ' r (s.trans q)
  | .ct _, _, k => fun F' H' σ' r q => k F' H' σ' r (s.trans q)
  | .ret _, _, k => fun F' H' v c q => k F' H' v c (s.trans q)

abbrev PD (X : Cx) (W : Wd) (e : Expr) (f : EX) : Prop := PE X e (tD X.K W f)
abbrev PDs (X : Cx) (W : Wd) (es : List Expr) (f : EXs) : Prop := PA X es (tDs X.K W f)
abbrev PDT (X : Cx) (W : Wd) (e : Expr) (f : TX) : Prop := PT X e (tT X.K W f)
abbrev PDW (X : Cx) (W : Wd) (e : Expr) (f : TX) : Prop := PW X e (tT X.K W f)
abbrev PDS (X : Cx) (W : Wd) (s : Stmt) (g : SX) : Prop := PS X s (tS X.K W g)
abbrev PDSs (X : Cx) (W : Wd) (s : List Stmt) (g : SX) : Prop := PSs X s (tS X.K W g)

theorem imp_E {X : Cx} {e : Expr} {t t' : TE} (h : PE X e t) (k : ∀ σ H Q, t' σ H Q → t σ H Q) : PE X e t' := ⟨fun pins s σ H Q I q => h.run pins s σ H Q I (k σ H Q q)⟩
theorem imp_T {X : Cx} {e : Expr} {t t' : TT} (h : PT X e t) (k : ∀ σ H Q, t' σ H Q → t σ H Q) : PT X e t' := ⟨fun pins s σ H Q I q => h.run pins s σ H Q I (k σ H Q q)⟩
theorem imp_W {X : Cx} {e : Expr} {t t' : TT} (h : PW X e t) (k : ∀ σ H Q, t' σ H Q → t σ H Q) : PW X e t' := ⟨fun w pins s σ H Q I q => h.run w pins s σ H Q I (k σ H Q q)⟩
theorem imp_A {X : Cx} {e : List Expr} {t t' : TA} (h : PA X e t) (k : ∀ σ H Q, t' σ H Q → t σ H Q) : PA X e t' := ⟨fun p pins s σ H Q I q => h.run p pins s σ H Q I (k σ H Q q)⟩
theorem imp_S {X : Cx} {e : Stmt} {t t' : TS} (h : PS X e t) (k : ∀ E σ H, t' E σ H → t E σ H) : PS X e t' := ⟨fun pins s σ H E I q => h.run pins s σ H E I (k E σ H q)⟩
theorem imp_Ss {X : Cx} {e : List Stmt} {t t' : TS} (h : PSs X e t) (k : ∀ E σ H, t' E σ H → t E σ H) : PSs X e t' := ⟨fun pins s σ H E I q => h.run pins s σ H E I (k E σ H q)⟩
end DL
end

section
set_option Elab.async false
set_option linter.all false
set_option autoImplicit false
set_option maxRecDepth 100000
namespace DL
open PySem PySem.Spec L2
section
variable {X : Cx} {W : Wd}

/-! ### names, constants -/
def eVar (i : Nat) : EX := fun ρ => M.opt (match ρ[i]? with | some (Sl.val d) => some d | _ => none)
theorem eVar_some {i : Nat} {ρ : Env} {n n1 : Int} {d : D} (h : eVar i ρ n = some (.ok d, n1)) : ρ[i]? = some (.val d) ∧ n1 = n := by
  unfold eVar at h
  obtain ⟨h1, h2⟩ := M.opt_ok h
  split at h1
  · cases h1; exact ⟨‹_›, h2⟩
  · cases h1
theorem d_var {e : Expr} {i : Nat} (h : PE X e (tVar i)) : PD X W e (eVar i) := imp_E h fun σ H Q ⟨fr, F, ρ, n, d, n', R, e, k⟩ => by
  obtain ⟨h1, h2⟩ := eVar_some e
  subst h2
  obtain ⟨ad, s⟩ := R.slots
  obtain ⟨v, h3, h4⟩ := s.val i d h1
  exact ⟨v, h3, k F H v R (Sub.refl _) h4⟩
theorem dv (i : Nat) {x : Str} {pos : Pos} (hN : X.N[i]? = some x := by rfl) (hv : Vis X.env.scope x := by first | exact Or.inl rfl | exact Or.inr (Or.inl rfl) | exact Or.inr (Or.inr rfl)) (hd : (x == ("__debug__" : Str)) = false := by decide)
    (hcd : (x == ("__classdict__" : Str)) = false := by decide) : PD X W (.Name x pos) (eVar i) := d_var (pe_var hN hv hd hcd)
def eC (d : D) : EX := fun _ => M.pure d
theorem d_con {e : Expr} {v : V} {d : D} (h : PE X e (tC v)) (hd : ∀ K W dr F, Den K W dr F v d) : PD X W e (eC d) := imp_E h fun σ H Q ⟨fr, F, ρ, n, d', n', R, e, k⟩ => by
  obtain ⟨h1, h2⟩ := M.pure_ok e
  subst h1 h2
  exact k F H v R (Sub.refl _) (hd _ _ _ _)
theorem d_int {i j pos} : PD X W (.Constant (.int i) j pos) (eC (.int i)) := d_con pe_int fun _ _ _ _ => .int i
theorem d_bl {i j pos} : PD X W (.Constant (.bool i) j pos) (eC (.bl i)) := d_con pe_bl fun _ _ _ _ => .bl i
theorem d_non {j pos} : PD X W (.Constant .none j pos) (eC .non) := d_con pe_non fun _ _ _ _ => .non
theorem d_str {x j pos} : PD X W (.Constant (.str x) j pos) (eC (.str x)) := d_con pe_str fun _ _ _ _ => .str x
/-- a module's constant that is an int, a text, a bool -/
theorem d_glob {x : Str} {v : V} {u : Value} {pos : Pos} {d : D} (hg : Gl X x) (hm : X.mg x = some u) (r : RelV v u) (hd : ∀ K W dr F, Den K W dr F v d) (hx : (x == ("__debug__" : Str)) = false := by decide) : PD X W (.Name x pos) (eC d) := d_con (pe_glob hg hm r hx) hd

/-! ### lists of expressions -/
def eNil : EXs := fun _ => M.pure []
def eCons (f : EX) (g : EXs) : EXs := fun ρ => M.bind (f ρ) fun d => M.bind (g ρ) fun ds => M.pure (d :: ds)
theorem ds_nil : PDs X W [] eNil := imp_A pa_nil fun σ H Q ⟨fr, F, ρ, n, d, n', R, e, k⟩ => by
  obtain ⟨h1, h2⟩ := M.pure_ok e
  subst h1 h2
  exact k F H [] R (Sub.refl _) .nil
theorem ds_cons {e : Expr} {es : List Expr} {f : EX} {g : EXs} (he : PD X W e f) (hr : PDs X W es g) (hs : starEach (e :: es) X.env = (false, eval e X.env) :: starEach es X.env := by rfl) : PDs X W (e :: es) (eCons f g) :=
  imp_A (pa_cons he hr hs) fun σ H Q ⟨fr, F, ρ, n, ds, n', R, e, k⟩ => by
    obtain ⟨d, n1, h1, h⟩ := M.bind_ok e
    obtain ⟨ds', n2, h2, h⟩ := M.bind_ok h
    obtain ⟨h3, h4⟩ := M.pure_ok h
    subst h3 h4
    exact ⟨fr, F, ρ, n, d, n1, R, h1, fun F1 H1 v R1 s1 d1 => ⟨fr, F1, ρ, n1, ds', _, R1, h2, fun F2 H2 vs R2 s2 d2 => k F2 H2 _ R2 (s1.trans s2) (.cons (d1.mono s2 fun _ z => z) d2)⟩⟩

/-! ### displays -/
theorem Core.freshTup {K : PySem.W.Frag} {fr : Fr} {F H : Hp} {n : Int} {vs : List V} {ds : List D} {p : Addr} (h : Dens K W fr.dr F vs ds) (hp : F p = none) : Den K W fr.dr (upd F p (.tup vs)) (.ref p) (.tup ds) :=
  .tup (SqT.of upd_same) (h.mono (fun a u q => by rw [upd_ne (ne_of_none q hp)]; exact q) fun _ z => z)
def gz (ds : List D) : Bool := decide (ds.length ≤ sizeLine)
def mkTup (ds : List D) : Option D := if gz ds then some (.tup ds) else none
def mkLst (ds : List D) : Option D := if gz ds then some (.lst ds) else none
theorem mkTup_ok {ds : List D} {d : D} (h : mkTup ds = some d) : d = .tup ds ∧ ds.length ≤ sizeLine := by
  unfold mkTup at h
  split at h
  · rename_i q; cases h; exact ⟨rfl, of_decide_eq_true q⟩
  · cases h
theorem mkLst_ok {ds : List D} {d : D} (h : mkLst ds = some d) : d = .lst ds ∧ ds.length ≤ sizeLine := by
  unfold mkLst at h
  split at h
  · rename_i q; cases h; exact ⟨rfl, of_decide_eq_true q⟩
  · cases h
def eTup (f : EXs) : EX := fun ρ => M.bind (f ρ) fun ds => M.opt (mkTup ds)
def eLst (f : EXs) : EX := fun ρ => M.bind (f ρ) fun ds => M.opt (mkLst ds)
/-- a new tuple, a new list, handed on as known -/
theorem put_tup {K : PySem.W.Frag} {fr : Fr} {F H : Hp} {σ : St} {ρ : Env} {n : Int} {vs : List V} {ds : List D} {Q : VK} (R : Rel K W fr F H σ ρ n) (hd : Dens K W fr.dr F vs ds)
    (k : ∀ F' H' v, Rel K W fr F' H' σ ρ n → Sub F F' → Den K W fr.dr F' v (.tup ds) → Q v H') : ∀ p, H p = none → Q (.ref p) (upd H p (.tup vs)) := fun p hp =>
  k _ _ _ (R.fresh hp) (R.core.sub.new hp) (.tup (SqT.of upd_same) (hd.mono (R.core.sub.new hp) fun _ z => z))
theorem put_lst {K : PySem.W.Frag} {fr : Fr} {F H : Hp} {σ : St} {ρ : Env} {n : Int} {vs : List V} {ds : List D} {Q : VK} (R : Rel K W fr F H σ ρ n) (hd : Dens K W fr.dr F vs ds)
    (k : ∀ F' H' v, Rel K W fr F' H' σ ρ n → Sub F F' → Den K W fr.dr F' v (.lst ds) → Q v H') : ∀ p, H p = none → Q (.ref p) (upd H p (.lst vs)) := fun p hp =>
  k _ _ _ (R.fresh hp) (R.core.sub.new hp) (.lst upd_same (hd.mono (R.core.sub.new hp) fun _ z => z))
theorem d_tup {es : List Expr} {f : EXs} {x1 pos} (h : PDs X W es f) : PD X W (.Tuple es x1 pos) (eTup f) := imp_E (pe_tup h) fun σ H Q ⟨fr, F, ρ, n, d, n', R, e, k⟩ => by
  obtain ⟨ds, n1, h1, h⟩ := M.bind_ok e
  obtain ⟨h2, h3⟩ := M.opt_ok h
  obtain ⟨h4, h5⟩ := mkTup_ok h2
  subst h3 h4
  exact ⟨fr, F, ρ, n, ds, _, R, h1, fun F1 H1 vs R1 s1 d1 => ⟨by rw [d1.length]; exact h5, put_tup R1 d1 fun F2 H2 v R2 s2 d2 => k F2 H2 v R2 (s1.trans s2) d2⟩⟩
theorem d_lst {es : List Expr} {f : EXs} {pos} (h : PDs X W es f) : PD X W (.List es pos) (eLst f) := imp_E (pe_lst h) fun σ H Q ⟨fr, F, ρ, n, d, n', R, e, k⟩ => by
  obtain ⟨ds, n1, h1, h⟩ := M.bind_ok e
  obtain ⟨h2, h3⟩ := M.opt_ok h
  obtain ⟨h4, h5⟩ := mkLst_ok h2
  subst h3 h4
  exact ⟨fr, F, ρ, n, ds, _, R, h1, fun F1 H1 vs R1 s1 d1 => ⟨by rw [d1.length]; exact h5, put_lst R1 d1 fun F2 H2 v R2 s2 d2 => k F2 H2 v R2 (s1.trans s2) d2⟩⟩

/-! ### operators -/
def e2 (op : D → D → Option D) (fa fb : EX) : EX := fun ρ => M.bind (fa ρ) fun x => M.bind (fb ρ) fun y => M.opt (op x y)
/-- an operator over data -/
def Op2 (K : PySem.W.Frag) (W : Wd) (r : R2) (op : D → D → Option D) : Prop := ∀ (fr : Fr) (F H : Hp) (σ : St) (ρ : Env) (n : Int) (x y d : D) (v u : V) (Q : VK), Rel K W fr F H σ ρ n → Den K W fr.dr F v x → Den K W fr.dr F u y → op x y = some d →
  (∀ F' H' w, Rel K W fr F' H' σ ρ n → Sub F F' → Den K W fr.dr F' w d → Q w H') → r v u H Q
theorem d_tOp {K : PySem.W.Frag} {r : R2} {op : D → D → Option D} {fa fb : EX} (hd : Op2 K W r op) {σ : St} {H : Hp} {Q : VK} (h : tD K W (e2 op fa fb) σ H Q) : tOp r (tD K W fa) (tD K W fb) σ H Q := by
  obtain ⟨fr, F, ρ, n, d, n', R, e, k⟩ := h
  obtain ⟨x, n1, h1, h⟩ := M.bind_ok e
  obtain ⟨y, n2, h2, h⟩ := M.bind_ok h
  obtain ⟨h3, h4⟩ := M.opt_ok h
  subst h4
  exact ⟨fr, F, ρ, n, x, n1, R, h1, fun F1 H1 v R1 s1 d1 => ⟨fr, F1, ρ, n1, y, _, R1, h2, fun F2 H2 u R2 s2 d2 => hd fr F2 H2 σ ρ _ x y d v u Q R2 (d1.mono s2 fun _ z => z) d2 h3 fun F3 H3 w R3 s3 d3 => k F3 H3 w R3 ((s1.trans s2).trans s3) d3⟩⟩
theorem d_op {a b : Expr} {fa fb : EX} {o : Operator} {r : R2} {op : D → D → Option D} {pos : Pos} (ho : OpR X (binaryOp o) r) (hd : Op2 X.K W r op) (ha : PD X W a fa) (hb : PD X W b fb) : PD X W (.BinOp a o b pos) (e2 op fa fb) := imp_E (pe_op ho ha hb) fun _ _ _ h => d_tOp hd h
theorem d_cmp {a b : Expr} {fa fb : EX} {o : CmpOp} {r : R2} {op : D → D → Option D} {pos : Pos} (ho : OpR X (compareOp o) r) (hd : Op2 X.K W r op) (ha : PD X W a fa) (hb : PD X W b fb) (hm : behindInMarks o b = false) : PD X W (.Compare a [o] [b] pos) (e2 op fa fb) := imp_E (pe_cmpR ho ha hb hm) fun _ _ _ h => d_tOp hd h

def dAdd : D → D → Option D
  | .int a, .int b => some (.int (a + b))
  | .str a, .str b => if a.length + b.length ≤ sizeLine then some (.str (a ++ b)) else none
  | .tup a, .tup b => mkTup (a ++ b)
  | .lst a, .lst b => mkLst (a ++ b)
  | _, _ => none
theorem dens_nil {K : PySem.W.Frag} {dr : Option Addr} {F : Hp} {vs : List V} (h : Dens K W dr F vs []) : vs = [] := by cases h; rfl
theorem dens_ne {K : PySem.W.Frag} {dr : Option Addr} {F : Hp} {vs : List V} {ds : List D} (h : Dens K W dr F vs ds) : vs = [] ↔ ds = [] := by
  cases h <;> simp
abbrev rAddD (K : PySem.W.Frag) : R2 := fun x y H Q => (((rI0 fun i j => .int (i + j)) x y H Q ∨ (∃ i j, x = .str i ∧ y = .str j ∧ i.length + j.length ≤ sizeLine ∧ Q (.str (i ++ j)) H)) ∨ rCatA K x y H Q) ∨ rCat x y H Q
theorem o_add : OpR X (binaryOp .Add) (rAddD X.K) := ((op_add.or op_add_str).or op_catA).or op_cat
theorem q_add {K : PySem.W.Frag} : Op2 K W (rAddD K) dAdd := by
  intro fr F H σ ρ n x y d v u Q R dx dy h k
  unfold dAdd at h
  split at h
  · cases dx; cases dy; cases h
    exact .inl (.inl (.inl ⟨_, _, rfl, rfl, k F H _ R (Sub.refl _) (.int _)⟩))
  · split at h
    · cases dx; cases dy; cases h
      exact .inl (.inl (.inr ⟨_, _, rfl, rfl, ‹_›, k F H _ R (Sub.refl _) (.str _)⟩))
    · cases h
  · obtain ⟨rfl, hz⟩ := mkTup_ok h
    cases dx with
    | tup hx rx =>
      cases dy with
      | tup hy ry =>
        refine .inl (.inr ⟨_, _, _, _, rfl, rfl, R.core.sub.sqT hx, R.core.sub.sqT hy, by rw [rx.length, ry.length, ← List.length_append]; exact hz, fun e => ?_, fun e1 e2 => ?_, fun e1 e2 => ?_⟩)
        · rw [(dens_ne rx).mp e, List.nil_append] at k
          exact k F H _ R (Sub.refl _) (.tup hy ry)
        · rw [(dens_ne ry).mp e2, List.append_nil] at k
          exact k F H _ R (Sub.refl _) (.tup hx rx)
        · exact put_tup R (rx.append ry) k
  · obtain ⟨rfl, hz⟩ := mkLst_ok h
    cases dx with
    | lst hx rx =>
      cases dy with
      | lst hy ry =>
        exact .inr ⟨_, _, _, _, rfl, rfl, R.core.sub _ _ hx, R.core.sub _ _ hy, by rw [rx.length, ry.length, ← List.length_append]; exact hz, put_lst R (rx.append ry) k⟩
  · cases h
theorem d_add {a b : Expr} {fa fb : EX} {pos : Pos} (ha : PD X W a fa) (hb : PD X W b fb) : PD X W (.BinOp a .Add b pos) (e2 dAdd fa fb) := d_op o_add q_add ha hb

/-- an operator of ints -/
def dI (C : Int → Int → Bool) (g : Int → Int → D) : D → D → Option D
  | .int a, .int b => if C a b then some (g a b) else none
  | _, _ => none
theorem q_I {K : PySem.W.Frag} {C : Int → Int → Prop} {D' : Int → Int → Bool} {g : Int → Int → V} {gd : Int → Int → D} (hC : ∀ i j, D' i j = true → C i j) (hg : ∀ K W dr F i j, Den K W dr F (g i j) (gd i j)) : Op2 K W (rI C g) (dI D' gd) := by
  intro fr F H σ ρ n x y d v u Q R dx dy h k
  unfold dI at h
  split at h
  · split at h
    · cases dx; cases dy; cases h
      exact ⟨_, _, rfl, rfl, hC _ _ ‹_›, k F H _ R (Sub.refl _) (hg _ _ _ _ _ _)⟩
    · cases h
  · cases h
theorem q_I0 {K : PySem.W.Frag} {g : Int → Int → V} {gd : Int → Int → D} (hg : ∀ K W dr F i j, Den K W dr F (g i j) (gd i j)) : Op2 K W (rI0 g) (dI (fun _ _ => true) gd) := by
  intro fr F H σ ρ n x y d v u Q R dx dy h k
  unfold dI at h
  split at h
  · cases dx; cases dy; cases h
    exact ⟨_, _, rfl, rfl, k F H _ R (Sub.refl _) (hg _ _ _ _ _ _)⟩
  · cases h
def dSub : D → D → Option D := dI (fun _ _ => true) fun i j => .int (i - j)
def small64 (i : Int) : Bool := decide (-(2 ^ 64) < i) && decide (i < 2 ^ 64)
def dMulI : D → D → Option D := dI (fun i j => small64 i || small64 j) fun i j => .int (i * j)
def dMod : D → D → Option D := dI (fun _ j => decide (0 < j)) fun i j => .int (i % j)
def dDiv : D → D → Option D := dI (fun _ j => decide (0 < j) && decide (j < 1073741824)) fun i j => .int (i / j)
def dPow : D → D → Option D := dI (fun i j => decide (0 ≤ j) && decide (j ≤ 1000000) && decide (i.natAbs < 2 ^ 64)) fun i j => .int (i ^ j.toNat)
theorem d_sub {a b : Expr} {fa fb : EX} {pos : Pos} (ha : PD X W a fa) (hb : PD X W b fb) : PD X W (.BinOp a .Sub b pos) (e2 dSub fa fb) := d_op op_sub (q_I0 fun _ _ _ _ _ _ => .int _) ha hb
theorem small64_ok {i : Int} (h : small64 i = true) : -(2 ^ 64) < i ∧ i < 2 ^ 64 := by
  unfold small64 at h
  simp only [Bool.and_eq_true, decide_eq_true_eq] at h
  exact h
theorem d_mulI {a b : Expr} {fa fb : EX} {pos : Pos} (ha : PD X W a fa) (hb : PD X W b fb) : PD X W (.BinOp a .Mult b pos) (e2 dMulI fa fb) := d_op op_mul (q_I (fun i j h => by
  rw [Bool.or_eq_true] at h
  exact h.imp small64_ok small64_ok) fun _ _ _ _ _ _ => .int _) ha hb
theorem d_mod {a b : Expr} {fa fb : EX} {pos : Pos} (ha : PD X W a fa) (hb : PD X W b fb) : PD X W (.BinOp a .Mod b pos) (e2 dMod fa fb) := d_op op_mod (q_I (fun i j h => of_decide_eq_true h) fun _ _ _ _ _ _ => .int _) ha hb
theorem d_div {a b : Expr} {fa fb : EX} {pos : Pos} (ha : PD X W a fa) (hb : PD X W b fb) : PD X W (.BinOp a .FloorDiv b pos) (e2 dDiv fa fb) := d_op op_fdiv (q_I (fun i j h => by
  simp only [Bool.and_eq_true, decide_eq_true_eq] at h
  exact h) fun _ _ _ _ _ _ => .int _) ha hb
theorem d_pow {a b : Expr} {fa fb : EX} {pos : Pos} (ha : PD X W a fa) (hb : PD X W b fb) : PD X W (.BinOp a .Pow b pos) (e2 dPow fa fb) := d_op op_pow (q_I (fun i j h => by
  simp only [Bool.and_eq_true, decide_eq_true_eq] at h
  exact ⟨h.1.1, h.1.2, h.2⟩) fun _ _ _ _ _ _ => .int _) ha hb

/-! ### comparisons -/
def strLt (a b : Str) : Bool := decide (a.cps.toList < b.cps.toList)
def strLe (a b : Str) : Bool := !decide (b.cps.toList < a.cps.toList)
def dLt : D → D → Option D
  | .int a, .int b => some (.bl (decide (a < b)))
  | .str a, .str b => some (.bl (strLt a b))
  | _, _ => none
theorem d_lt {a b : Expr} {fa fb : EX} {pos : Pos} (ha : PD X W a fa) (hb : PD X W b fb) : PD X W (.Compare a [.Lt] [b] pos) (e2 dLt fa fb) := d_cmp (op_lt.or op_lt_str) (by
  intro fr F H σ ρ n x y d v u Q R dx dy h k
  unfold dLt at h
  split at h
  · cases dx; cases dy; cases h
    exact .inl ⟨_, _, rfl, rfl, k F H _ R (Sub.refl _) (.bl _)⟩
  · cases dx; cases dy; cases h
    exact .inr ⟨_, _, rfl, rfl, k F H _ R (Sub.refl _) (.bl _)⟩
  · cases h) ha hb (nomark _)
def dCI (p : Int → Int → Bool) : D → D → Option D := dI (fun _ _ => true) fun i j => .bl (p i j)
abbrev dLe := dCI fun i j => decide (i ≤ j)
abbrev dGt := dCI fun i j => decide (j < i)
abbrev dGe := dCI fun i j => decide (j ≤ i)
theorem d_le {a b : Expr} {fa fb : EX} {pos : Pos} (ha : PD X W a fa) (hb : PD X W b fb) : PD X W (.Compare a [.LtE] [b] pos) (e2 dLe fa fb) := d_cmp op_le (q_I0 fun _ _ _ _ _ _ => .bl _) ha hb (nomark _)
theorem d_gt {a b : Expr} {fa fb : EX} {pos : Pos} (ha : PD X W a fa) (hb : PD X W b fb) : PD X W (.Compare a [.Gt] [b] pos) (e2 dGt fa fb) := d_cmp op_gt (q_I0 fun _ _ _ _ _ _ => .bl _) ha hb (nomark _)
theorem d_ge {a b : Expr} {fa fb : EX} {pos : Pos} (ha : PD X W a fa) (hb : PD X W b fb) : PD X W (.Compare a [.GtE] [b] pos) (e2 dGe fa fb) := d_cmp op_ge (q_I0 fun _ _ _ _ _ _ => .bl _) ha hb (nomark _)

mutual
def toPy : D → Option PyData
  | .non => some .none
  | .bl b => some (.bool b)
  | .int i => some (.int i)
  | .str x => some (.str x)
  | .tup xs => match toPys xs with | some ys => some (.tuple ys) | none => none
  | .lst xs => match toPys xs with | some ys => some (.list ys) | none => none
  | _ => none
def toPys : List D → Option (List PyData)
  | [] => some []
  | x :: xs => match toPy x, toPys xs with | some y, some ys => some (y :: ys) | _, _ => none
end
mutual
theorem dp_of {K : PySem.W.Frag} {dr : Option Addr} {F H : Hp} (s : Sub F H) : ∀ {v : V} {d : D} {p : PyData}, Den K W dr F v d → toPy d = some p → Dp K H v p
  | _, _, _, .non, h => by unfold toPy at h; cases h; exact .non
  | _, _, _, .bl b, h => by unfold toPy at h; cases h; exact .bl b
  | _, _, _, .int b, h => by unfold toPy at h; cases h; exact .int b
  | _, _, _, .str b, h => by unfold toPy at h; cases h; exact .str b
  | _, _, _, .tup h1 h2, h => by
    unfold toPy at h
    split at h
    · cases h; exact .tup (s.sqT h1) (dps_of s h2 ‹_›)
    · cases h
  | _, _, _, .lst h1 h2, h => by
    unfold toPy at h
    split at h
    · cases h; exact .lst (SqL.of (s _ _ h1)) (dps_of s h2 ‹_›)
    · cases h
  | _, _, _, .scr _, h => by simp [toPy] at h
  | _, _, _, .dic _ _ _, h => by simp [toPy] at h
  | _, _, _, .dit _ _ _, h => by simp [toPy] at h
  | _, _, _, .obj _ _ _, h => by simp [toPy] at h
  | _, _, _, .drw _, h => by simp [toPy] at h
theorem dps_of {K : PySem.W.Frag} {dr : Option Addr} {F H : Hp} (s : Sub F H) : ∀ {vs : List V} {ds : List D} {ps : List PyData}, Dens K W dr F vs ds → toPys ds = some ps → DpAll K H vs ps
  | _, _, _, .nil, h => by unfold toPys at h; cases h; exact .nil
  | _, _, _, .cons h1 h2, h => by
    unfold toPys at h
    split at h
    · cases h; exact .cons (dp_of s h1 ‹_›) (dps_of s h2 ‹_›)
    · cases h
end
def dEqB (x y : D) : Option Bool := match toPy x, toPy y with
  | some a, some b => if SeqAt.shaped a && SeqAt.shaped b then some (PyData.eqv a b) else none
  | _, _ => none
def dEq (x y : D) : Option D := match dEqB x y with | some b => some (.bl b) | none => none
def dNe (x y : D) : Option D := match dEqB x y with | some b => some (.bl (!b)) | none => none
theorem dEqB_ok {x y : D} {b : Bool} (h : dEqB x y = some b) : ∃ p q, toPy x = some p ∧ toPy y = some q ∧ SeqAt.shaped p = true ∧ SeqAt.shaped q = true ∧ b = PyData.eqv p q := by
  unfold dEqB at h
  split at h
  · split at h
    · rename_i a b h1 h2 hs
      rw [Bool.and_eq_true] at hs
      cases h
      exact ⟨_, _, h1, h2, hs.1, hs.2, rfl⟩
    · cases h
  · cases h
theorem d_eq {a b : Expr} {fa fb : EX} {pos : Pos} (hu : X.A.units + 64 < cLine) (ha : PD X W a fa) (hb : PD X W b fb) : PD X W (.Compare a [.Eq] [b] pos) (e2 dEq fa fb) := d_cmp (op_eqD hu) (by
  intro fr F H σ ρ n x y d v u Q R dx dy h k
  unfold dEq at h
  split at h
  · cases h
    obtain ⟨p, q, h1, h2, h3, h4, rfl⟩ := dEqB_ok ‹_›
    exact ⟨p, q, dp_of R.core.sub dx h1, dp_of R.core.sub dy h2, h3, h4, k F H _ R (Sub.refl _) (.bl _)⟩
  · cases h) ha hb (nomark _)
theorem d_ne {a b : Expr} {fa fb : EX} {pos : Pos} (hu : X.A.units + 64 < cLine) (ha : PD X W a fa) (hb : PD X W b fb) : PD X W (.Compare a [.NotEq] [b] pos) (e2 dNe fa fb) := d_cmp (op_neD hu) (by
  intro fr F H σ ρ n x y d v u Q R dx dy h k
  unfold dNe at h
  split at h
  · cases h
    obtain ⟨p, q, h1, h2, h3, h4, rfl⟩ := dEqB_ok ‹_›
    exact ⟨p, q, dp_of R.core.sub dx h1, dp_of R.core.sub dy h2, h3, h4, k F H _ R (Sub.refl _) (.bl _)⟩
  · cases h) ha hb (nomark _)
/-- is None -/
def e1 (op : D → Option D) (fa : EX) : EX := fun ρ => M.bind (fa ρ) fun x => M.opt (op x)
def isNon : D → Bool | .non => true | _ => false
theorem isNon_of {K : PySem.W.Frag} {dr : Option Addr} {F : Hp} {v : V} {d : D} (h : Den K W dr F v d) : decide (v = .non) = isNon d := by
  cases h <;> simp [isNon]
theorem d_isN {a : Expr} {fa : EX} {j p pos} (ha : PD X W a fa) : PD X W (.Compare a [.Is] [.Constant .none j p] pos) (e1 (fun d => some (.bl (isNon d))) fa) := imp_E (pe_cmp (pc_isN ha) rfl) fun σ H Q ⟨fr, F, ρ, n, d, n', R, e, k⟩ => by
  obtain ⟨x, n1, h1, h⟩ := M.bind_ok e
  obtain ⟨h2, h3⟩ := M.opt_ok h
  subst h3; cases h2
  exact ⟨fr, F, ρ, n, x, _, R, h1, fun F1 H1 v R1 s1 d1 => by show Q _ H1; rw [isNon_of d1]; exact k F1 H1 _ R1 s1 (.bl _)⟩
theorem d_notN {a : Expr} {fa : EX} {j p pos} (ha : PD X W a fa) : PD X W (.Compare a [.IsNot] [.Constant .none j p] pos) (e1 (fun d => some (.bl (!isNon d))) fa) := imp_E (pe_cmp (pc_notN ha) rfl) fun σ H Q ⟨fr, F, ρ, n, d, n', R, e, k⟩ => by
  obtain ⟨x, n1, h1, h⟩ := M.bind_ok e
  obtain ⟨h2, h3⟩ := M.opt_ok h
  subst h3; cases h2
  exact ⟨fr, F, ρ, n, x, _, R, h1, fun F1 H1 v R1 s1 d1 => by show Q _ H1; rw [isNon_of d1]; exact k F1 H1 _ R1 s1 (.bl _)⟩
/-- unary minus -/
def dNeg : D → Option D | .int i => some (.int (-i)) | _ => none
theorem d_neg {a : Expr} {fa : EX} {pos : Pos} (ha : PD X W a fa) : PD X W (.UnaryOp .USub a pos) (e1 dNeg fa) := imp_E (pe_un un_neg ha) fun σ H Q ⟨fr, F, ρ, n, d, n', R, e, k⟩ => by
  obtain ⟨x, n1, h1, h⟩ := M.bind_ok e
  obtain ⟨h2, h3⟩ := M.opt_ok h
  subst h3
  refine ⟨fr, F, ρ, n, x, _, R, h1, fun F1 H1 v R1 s1 d1 => ?_⟩
  unfold dNeg at h2
  split at h2
  · cases h2; cases d1
    exact ⟨_, rfl, k F1 H1 _ R1 s1 (.int _)⟩
  · cases h2
end
end DL
end

section
set_option Elab.async false
set_option linter.all false
set_option autoImplicit false
set_option maxRecDepth 100000
namespace DL
open PySem PySem.Spec L2
section
variable {X : Cx} {W : Wd}

/-! ### truth, tests -/
def dTru : D → Option Bool
  | .non => some false
  | .bl b => some b
  | .int i => some (i != 0)
  | .str x => if x.length ≤ sizeLine then some ((x.length : Int) != 0) else none
  | .tup xs => some (!xs.isEmpty)
  | .lst xs => some (!xs.isEmpty)
  | .scr => none
  | .dic _ _ => none
  | .dit _ _ => none
  | .obj _ _ _ => none
  | .drw => none
theorem tru_of {K : PySem.W.Frag} {dr : Option Addr} {F H : Hp} (s : Sub F H) {v : V} {d : D} {b : Bool} (h : Den K W dr F v d) (e : dTru d = some b) : TruV K v H b := by
  cases h with
  | non => cases e; rfl
  | bl b => cases e; rfl
  | int i => cases e; rfl
  | str x =>
    unfold dTru at e
    split at e <;> simp_all [TruV]
  | tup h1 h2 =>
    cases e
    exact .inr (.inl ⟨_, s.sqT h1, by cases h2 <;> rfl⟩)
  | lst h1 h2 =>
    cases e
    exact .inl ⟨_, SqL.of (s _ _ h1), by cases h2 <;> rfl⟩
  | scr _ => cases e
  | dic _ _ _ => cases e
  | dit _ _ _ => cases e
  | obj _ _ _ => cases e
  | drw _ => cases e
/-- the truth of a value, as a test -/
def tTru (f : EX) : TX := fun ρ => M.bind (f ρ) fun d => M.opt (dTru d)
theorem t_tru {a : Expr} {f : EX} (ha : PD X W a f) (he : ∀ whole, isTrue a X.env whole = (do let v ← whole; standAt a.pos; holding [v] (truthy v)) := by intro _; rfl) : PDT X W a (tTru f) := imp_T (pt_truth ha he) fun σ H Q ⟨fr, F, ρ, n, b, n', R, e, k⟩ => by
  obtain ⟨x, n1, h1, h⟩ := M.bind_ok e
  obtain ⟨h2, h3⟩ := M.opt_ok h
  subst h3
  exact ⟨fr, F, ρ, n, x, _, R, h1, fun F1 H1 v R1 s1 d1 => ⟨b, tru_of R1.core.sub d1 h2, k F1 H1 R1 s1⟩⟩
/-- a comparison as a test -/
def dBool : D → Option Bool | .bl b => some b | _ => none
def tB (f : EX) : TX := fun ρ => M.bind (f ρ) fun d => M.opt (dBool d)
theorem t_test {K : PySem.W.Frag} {t : TE} {f : EX} (h : ∀ σ H Q, tD K W f σ H Q → t σ H Q) {σ : St} {H : Hp} {Q : Bool → Hp → Prop} (h' : tT K W (tB f) σ H Q) : tTest t σ H Q := by
  obtain ⟨fr, F, ρ, n, b, n', R, e, k⟩ := h'
  obtain ⟨x, n1, h1, h2⟩ := M.bind_ok e
  obtain ⟨h3, h4⟩ := M.opt_ok h2
  subst h4
  refine h σ H _ ⟨fr, F, ρ, n, x, _, R, h1, fun F1 H1 v R1 s1 d1 => ?_⟩
  unfold dBool at h3
  split at h3
  · cases h3; cases d1; exact ⟨_, rfl, k F1 H1 R1 s1⟩
  · cases h3
theorem t_cmp {a b : Expr} {fa fb : EX} {o : CmpOp} {r : R2} {op : D → D → Option D} {pos : Pos} (ho : OpR X (compareOp o) r) (hd : Op2 X.K W r op) (ha : PD X W a fa) (hb : PD X W b fb) (hm : behindInMarks o b = false) : PDT X W (.Compare a [o] [b] pos) (tB (e2 op fa fb)) := imp_T (pt_cmpR ho ha hb hm) fun σ H Q h => t_test (fun _ _ _ => d_tOp hd) h
def eChain (o1 o2 : D → D → Option D) (fa fb fc : EX) : EX := fun ρ => M.bind (fa ρ) fun x => M.bind (fb ρ) fun y => M.bind (M.opt (o1 x y)) fun r => match r with
  | .bl true => M.bind (fc ρ) fun z => M.opt (o2 y z)
  | .bl false => M.pure (.bl false)
  | _ => M.opt none
theorem d_tChain {K : PySem.W.Frag} {r r' : R2} {o1 o2 : D → D → Option D} {fa fb fc : EX} (h1 : Op2 K W r o1) (h2 : Op2 K W r' o2) {σ : St} {H : Hp} {Q : VK} (h : tD K W (eChain o1 o2 fa fb fc) σ H Q) : tChain r r' (tD K W fa) (tD K W fb) (tD K W fc) σ H Q := by
  obtain ⟨fr, F, ρ, n, d, n', R, e, k⟩ := h
  obtain ⟨x, n1, e1, ha⟩ := M.bind_ok e
  obtain ⟨y, n2, e2, hb⟩ := M.bind_ok ha
  obtain ⟨z, n3, e3, h⟩ := M.bind_ok hb
  obtain ⟨e4, e5⟩ := M.opt_ok e3
  clear ha hb
  subst e5
  refine ⟨fr, F, ρ, n, x, n1, R, e1, fun F1 H1 v R1 s1 d1 => ⟨fr, F1, ρ, n1, y, _, R1, e2, fun F2 H2 u R2 s2 d2 => ?_⟩⟩
  refine h1 fr F2 H2 σ ρ _ x y z v u _ R2 (d1.mono s2 fun _ z => z) d2 e4 fun F3 H3 w R3 s3 d3 => ?_
  split at h
  · cases d3
    refine ⟨true, rfl, ?_⟩
    rw [if_pos rfl]
    obtain ⟨t, n4, e6, h⟩ := M.bind_ok h
    obtain ⟨e7, e8⟩ := M.opt_ok h
    subst e8
    exact ⟨fr, F3, ρ, _, t, _, R3, e6, fun F4 H4 w' R4 s4 d4 => h2 fr F4 H4 σ ρ _ y t d u w' Q R4 (d2.mono (s3.trans s4) fun _ z => z) d4 e7 fun F5 H5 w5 R5 s5 d5 => k F5 H5 w5 R5 ((((s1.trans s2).trans s3).trans s4).trans s5) d5⟩
  · cases d3
    refine ⟨false, rfl, ?_⟩
    rw [if_neg Bool.false_ne_true]
    obtain ⟨e6, e7⟩ := M.pure_ok h
    subst e6 e7
    exact k F3 H3 _ R3 ((s1.trans s2).trans s3) (.bl _)
  · obtain ⟨q, _⟩ := M.opt_ok h
    cases q
theorem d_chain {a b c : Expr} {fa fb fc : EX} {p q : CmpOp} {r r' : R2} {o1 o2 : D → D → Option D} {pos : Pos} (ho : OpR X (compareOp p) r) (ho' : OpR X (compareOp q) r') (h1 : Op2 X.K W r o1) (h2 : Op2 X.K W r' o2) (ha : PD X W a fa) (hb : PD X W b fb) (hc : PD X W c fc)
    (hm : lastMarks [p, q] [b, c] = false := by with_unfolding_all rfl) : PD X W (.Compare a [p, q] [b, c] pos) (eChain o1 o2 fa fb fc) := imp_E (pe_chain ho ho' ha hb hc hm) fun _ _ _ h => d_tChain h1 h2 h
theorem t_chain {a b c : Expr} {fa fb fc : EX} {p q : CmpOp} {r r' : R2} {o1 o2 : D → D → Option D} {pos : Pos} (ho : OpR X (compareOp p) r) (ho' : OpR X (compareOp q) r') (h1 : Op2 X.K W r o1) (h2 : Op2 X.K W r' o2) (ha : PD X W a fa) (hb : PD X W b fb) (hc : PD X W c fc)
    (hm : lastMarks [p, q] [b, c] = false := by with_unfolding_all rfl) : PDT X W (.Compare a [p, q] [b, c] pos) (tB (eChain o1 o2 fa fb fc)) := imp_T (pt_chain ho ho' ha hb hc hm) fun _ _ _ h => t_test (fun _ _ _ => d_tChain h1 h2) h
/-- and, or, not, as tests -/
def tAndD (t u : TX) : TX := fun ρ => M.bind (t ρ) fun b => match b with | true => u ρ | false => M.pure false
def tOrD (t u : TX) : TX := fun ρ => M.bind (t ρ) fun b => match b with | true => M.pure true | false => u ρ
def tNotD (t : TX) : TX := fun ρ => M.bind (t ρ) fun b => M.pure (!b)
theorem w_and1 {a : Expr} {t : TX} {pos : Pos} (h : PDT X W a t) : PDW X W (.BoolOp .And [a] pos) t := pw_and1 h
theorem w_or1 {a : Expr} {t : TX} {pos : Pos} (h : PDT X W a t) : PDW X W (.BoolOp .Or [a] pos) t := pw_or1 h
theorem tAnd_of {K : PySem.W.Frag} {t u : TX} {σ : St} {H : Hp} {Q : Bool → Hp → Prop} (h : tT K W (tAndD t u) σ H Q) : tAnd (tT K W t) (tT K W u) σ H Q := by
  obtain ⟨fr, F, ρ, n, b, n', R, e, k⟩ := h
  obtain ⟨x, n1, e1, h⟩ := M.bind_ok e
  refine ⟨fr, F, ρ, n, x, n1, R, e1, fun F1 H1 R1 s1 => ?_⟩
  cases x with
  | true =>
    rw [if_pos rfl]
    exact ⟨fr, F1, ρ, n1, b, n', R1, h, fun F2 H2 R2 s2 => k F2 H2 R2 (s1.trans s2)⟩
  | false =>
    rw [if_neg Bool.false_ne_true]
    obtain ⟨e6, e7⟩ := M.pure_ok h
    subst e6 e7
    exact k F1 H1 R1 s1
theorem tOr_of {K : PySem.W.Frag} {t u : TX} {σ : St} {H : Hp} {Q : Bool → Hp → Prop} (h : tT K W (tOrD t u) σ H Q) : tOr (tT K W t) (tT K W u) σ H Q := by
  obtain ⟨fr, F, ρ, n, b, n', R, e, k⟩ := h
  obtain ⟨x, n1, e1, h⟩ := M.bind_ok e
  refine ⟨fr, F, ρ, n, x, n1, R, e1, fun F1 H1 R1 s1 => ?_⟩
  cases x with
  | false =>
    rw [if_neg Bool.false_ne_true]
    exact ⟨fr, F1, ρ, n1, b, n', R1, h, fun F2 H2 R2 s2 => k F2 H2 R2 (s1.trans s2)⟩
  | true =>
    rw [if_pos rfl]
    obtain ⟨e6, e7⟩ := M.pure_ok h
    subst e6 e7
    exact k F1 H1 R1 s1
theorem w_and {a b : Expr} {r : List Expr} {t u : TX} {pos : Pos} (h : PDT X W a t) (h' : PDW X W (.BoolOp .And (b :: r) pos) u) : PDW X W (.BoolOp .And (a :: b :: r) pos) (tAndD t u) := imp_W (pw_and h h') fun _ _ _ => tAnd_of
theorem w_or {a b : Expr} {r : List Expr} {t u : TX} {pos : Pos} (h : PDT X W a t) (h' : PDW X W (.BoolOp .Or (b :: r) pos) u) : PDW X W (.BoolOp .Or (a :: b :: r) pos) (tOrD t u) := imp_W (pw_or h h') fun _ _ _ => tOr_of
theorem t_w {e : Expr} {t : TX} (h : PDW X W e t) : PDT X W e t := h.pt
theorem t_not {a : Expr} {t : TX} {pos : Pos} (h : PDT X W a t) : PDT X W (.UnaryOp .Not a pos) (tNotD t) := imp_T (pt_not h) fun σ H Q ⟨fr, F, ρ, n, b, n', R, e, k⟩ => by
  obtain ⟨x, n1, e1, h⟩ := M.bind_ok e
  obtain ⟨e6, e7⟩ := M.pure_ok h
  subst e6 e7
  exact ⟨fr, F, ρ, n, x, _, R, e1, fun F1 H1 R1 s1 => k F1 H1 R1 s1⟩
/-- and, or, not, as values -/
def eAnd (f g : EX) : EX := fun ρ => M.bind (f ρ) fun d => M.bind (M.opt (dTru d)) fun b => match b with | true => g ρ | false => M.pure d
def eOr (f g : EX) : EX := fun ρ => M.bind (f ρ) fun d => M.bind (M.opt (dTru d)) fun b => match b with | true => M.pure d | false => g ρ
def eNot (f : EX) : EX := fun ρ => M.bind (f ρ) fun d => M.bind (M.opt (dTru d)) fun b => M.pure (.bl (!b))
theorem d_one {a : Expr} {f : EX} {o : BoolOp} {pos : Pos} (h : PD X W a f) : PD X W (.BoolOp o [a] pos) f := pe_one h
theorem d_and {a b : Expr} {r : List Expr} {f g : EX} {pos : Pos} (h : PD X W a f) (h' : PD X W (.BoolOp .And (b :: r) pos) g) : PD X W (.BoolOp .And (a :: b :: r) pos) (eAnd f g) := imp_E (pe_andT h h') fun σ H Q ⟨fr, F, ρ, n, d, n', R, e, k⟩ => by
  obtain ⟨x, n1, e1, ha⟩ := M.bind_ok e
  obtain ⟨b, n2, e2, h⟩ := M.bind_ok ha
  obtain ⟨e3, e4⟩ := M.opt_ok e2
  clear ha
  subst e4
  refine ⟨fr, F, ρ, n, x, _, R, e1, fun F1 H1 v R1 s1 d1 => ⟨b, tru_of R1.core.sub d1 e3, ?_⟩⟩
  cases b with
  | true =>
    rw [if_pos rfl]
    exact ⟨fr, F1, ρ, _, d, n', R1, h, fun F2 H2 u R2 s2 d2 => k F2 H2 u R2 (s1.trans s2) d2⟩
  | false =>
    rw [if_neg Bool.false_ne_true]
    obtain ⟨e6, e7⟩ := M.pure_ok h
    subst e6 e7
    exact k F1 H1 v R1 s1 d1
theorem d_or {a b : Expr} {r : List Expr} {f g : EX} {pos : Pos} (h : PD X W a f) (h' : PD X W (.BoolOp .Or (b :: r) pos) g) : PD X W (.BoolOp .Or (a :: b :: r) pos) (eOr f g) := imp_E (pe_orT h h') fun σ H Q ⟨fr, F, ρ, n, d, n', R, e, k⟩ => by
  obtain ⟨x, n1, e1, ha⟩ := M.bind_ok e
  obtain ⟨b, n2, e2, h⟩ := M.bind_ok ha
  obtain ⟨e3, e4⟩ := M.opt_ok e2
  clear ha
  subst e4
  refine ⟨fr, F, ρ, n, x, _, R, e1, fun F1 H1 v R1 s1 d1 => ⟨b, tru_of R1.core.sub d1 e3, ?_⟩⟩
  cases b with
  | false =>
    rw [if_neg Bool.false_ne_true]
    exact ⟨fr, F1, ρ, _, d, n', R1, h, fun F2 H2 u R2 s2 d2 => k F2 H2 u R2 (s1.trans s2) d2⟩
  | true =>
    rw [if_pos rfl]
    obtain ⟨e6, e7⟩ := M.pure_ok h
    subst e6 e7
    exact k F1 H1 v R1 s1 d1
theorem d_not {a : Expr} {f : EX} {pos : Pos} (h : PD X W a f) : PD X W (.UnaryOp .Not a pos) (eNot f) := imp_E (pe_notT h) fun σ H Q ⟨fr, F, ρ, n, d, n', R, e, k⟩ => by
  obtain ⟨x, n1, e1, ha⟩ := M.bind_ok e
  obtain ⟨b, n2, e2, h⟩ := M.bind_ok ha
  obtain ⟨e3, e4⟩ := M.opt_ok e2
  clear ha
  subst e4
  obtain ⟨e6, e7⟩ := M.pure_ok h
  subst e6 e7
  exact ⟨fr, F, ρ, n, x, _, R, e1, fun F1 H1 v R1 s1 d1 => ⟨b, tru_of R1.core.sub d1 e3, k F1 H1 _ R1 s1 (.bl _)⟩⟩
def eIf (t : TX) (f g : EX) : EX := fun ρ => M.bind (t ρ) fun b => match b with | true => f ρ | false => g ρ
theorem d_if {c a b : Expr} {t : TX} {f g : EX} {pos : Pos} (hc : PDT X W c t) (ha : PD X W a f) (hb : PD X W b g) : PD X W (.IfExp c a b pos) (eIf t f g) := imp_E (pe_ifExp hc ha hb) fun σ H Q ⟨fr, F, ρ, n, d, n', R, e, k⟩ => by
  obtain ⟨b, n1, e1, h⟩ := M.bind_ok e
  refine ⟨fr, F, ρ, n, b, n1, R, e1, fun F1 H1 R1 s1 => ?_⟩
  cases b with
  | true =>
    rw [if_pos rfl]
    exact ⟨fr, F1, ρ, n1, d, n', R1, h, fun F2 H2 v R2 s2 d2 => k F2 H2 v R2 (s1.trans s2) d2⟩
  | false =>
    rw [if_neg Bool.false_ne_true]
    exact ⟨fr, F1, ρ, n1, d, n', R1, h, fun F2 H2 v R2 s2 d2 => k F2 H2 v R2 (s1.trans s2) d2⟩

/-! ### subscripts -/
def dIx : D → D → Option D
  | .tup xs, .int i => atI xs i
  | .lst xs, .int i => atI xs i
  | .str z, .int i => if z.length ≤ sizeLine then (match atI z.cps.toList i with | some c => some (.str ⟨#[c]⟩) | none => none) else none
  | .scr, .int i => none
  | _, _ => none
theorem Dens.at {K : PySem.W.Frag} {dr : Option Addr} {F : Hp} {vs : List V} {ds : List D} {i : Int} {d : D} (h : Dens K W dr F vs ds) (e : atI ds i = some d) : ∃ v, atI vs i = some v ∧ Den K W dr F v d := by
  unfold atI at e ⊢
  rw [h.length]
  cases q : ixN ds.length i with
  | none => rw [q] at e; cases e
  | some j =>
    rw [q] at e
    exact h.get e
theorem q_ix {K : PySem.W.Frag} : Op2 K W (rIx K) dIx := by
  intro fr F H σ ρ n x y d v u Q R dx dy h k
  unfold dIx at h
  split at h
  · cases dx with
    | tup h1 h2 =>
      cases dy
      obtain ⟨w, e1, e2⟩ := h2.at h
      exact .inr (.inl ⟨_, _, _, w, rfl, rfl, R.core.sub.sqT h1, e1, k F H w R (Sub.refl _) e2⟩)
  · cases dx with
    | lst h1 h2 =>
      cases dy
      obtain ⟨w, e1, e2⟩ := h2.at h
      exact .inl ⟨_, _, _, w, rfl, rfl, SqL.of (R.core.sub _ _ h1), e1, k F H w R (Sub.refl _) e2⟩
  · cases dx; cases dy
    split at h
    · split at h
      · cases h
        exact .inr (.inr ⟨_, _, _, rfl, rfl, ‹_›, ‹_›, k F H _ R (Sub.refl _) (.str _)⟩)
      · cases h
    · cases h
  · cases h
  · cases h
theorem d_ix {a b : Expr} {fa fb : EX} {pos : Pos} (ha : PD X W a fa) (hb : PD X W b fb) (hs : PlainIx b := by exact fun _ _ => rfl) : PD X W (.Subscript a b pos) (e2 dIx fa fb) := imp_E (pe_ix ix_seq ha hb hs) fun _ _ _ h => d_tOp q_ix h

/-! ### slices a[lo:hi] -/
abbrev EO := Env → M (Option Int)
def oNone : EO := fun _ => M.pure none
def oSome (f : EX) : EO := fun ρ => M.bind (f ρ) fun d => M.opt (match d with | .int i => some (some i) | _ => none)
def tOD (K : PySem.W.Frag) (W : Wd) (f : EO) : TO := fun σ H Q => ∃ fr F ρ n o n', Rel K W fr F H σ ρ n ∧ f ρ n = some (.ok o, n') ∧ ∀ F' H', Rel K W fr F' H' σ ρ n' → Sub F F' → Q o H'
theorem imp_O {e : Option Expr} {t t' : TO} (h : PO X e t) (k : ∀ σ H Q, t' σ H Q → t σ H Q) : PO X e t' := ⟨fun pins s σ H Q I q => h.run pins s σ H Q I (k σ H Q q)⟩
theorem o_none : PO X none (tOD X.K W oNone) := imp_O po_none fun σ H Q ⟨fr, F, ρ, n, o, n', R, e, k⟩ => by
  obtain ⟨e6, e7⟩ := M.pure_ok e
  subst e6 e7
  exact k F H R (Sub.refl _)
theorem o_some {e : Expr} {f : EX} (h : PD X W e f) : PO X (some e) (tOD X.K W (oSome f)) := imp_O (po_some h) fun σ H Q ⟨fr, F, ρ, n, o, n', R, e, k⟩ => by
  obtain ⟨x, n1, e1, h⟩ := M.bind_ok e
  obtain ⟨e3, e4⟩ := M.opt_ok h
  subst e4
  refine ⟨fr, F, ρ, n, x, _, R, e1, fun F1 H1 v R1 s1 d1 => ?_⟩
  split at e3
  · cases e3; cases d1; exact ⟨_, rfl, k F1 H1 R1 s1⟩
  · cases e3
def cutD (xs : List D) (lo hi : Option Int) : List D := (xs.drop (HT.sIx xs.length 0 lo)).take (HT.sIx xs.length xs.length hi - HT.sIx xs.length 0 lo)
theorem Dens.cut {K : PySem.W.Frag} {dr : Option Addr} {F : Hp} {vs : List V} {ds : List D} (h : Dens K W dr F vs ds) (lo hi : Option Int) : Dens K W dr F (cutV vs lo hi) (cutD ds lo hi) := by
  unfold cutV cutD
  rw [h.length]
  exact (h.drop _).take _
def dCut (x : D) (lo hi : Option Int) : Option D := match x with
  | .tup xs => some (.tup (cutD xs lo hi))
  | .lst xs => some (.lst (cutD xs lo hi))
  | _ => none
theorem cut_whole {xs : List D} {lo hi : Option Int} (h : HT.sIx xs.length 0 lo = 0 ∧ HT.sIx xs.length xs.length hi = xs.length) : cutD xs lo hi = xs := by
  unfold cutD
  rw [h.1, h.2]
  simp
def eCut (f : EX) (lo hi : EO) : EX := fun ρ => M.bind (f ρ) fun x => M.bind (lo ρ) fun l => M.bind (hi ρ) fun h => M.opt (dCut x l h)
theorem d_cut {a : Expr} {lo hi : Option Expr} {f : EX} {l h : EO} {p2 pos : Pos} (ha : PD X W a f) (hl : PO X lo (tOD X.K W l)) (hh : PO X hi (tOD X.K W h)) : PD X W (.Subscript a (.Slice lo hi none p2) pos) (eCut f l h) := imp_E (pe_slice (sl_tupA.or sl_list) ha hl hh) fun σ H Q ⟨fr, F, ρ, n, d, n', R, e, k⟩ => by
  obtain ⟨x, n1, e1, h⟩ := M.bind_ok e
  obtain ⟨l', n2, e2, h⟩ := M.bind_ok h
  obtain ⟨u', n3, e3, h⟩ := M.bind_ok h
  obtain ⟨e4, e5⟩ := M.opt_ok h
  subst e5
  refine ⟨fr, F, ρ, n, x, _, R, e1, fun F1 H1 v R1 s1 d1 => ⟨fr, F1, ρ, _, l', _, R1, e2, fun F2 H2 R2 s2 => ⟨fr, F2, ρ, _, u', _, R2, e3, fun F3 H3 R3 s3 => ?_⟩⟩⟩
  have k' : ∀ F' H' w, Rel X.K W fr F' H' σ ρ _ → Sub F3 F' → Den X.K W fr.dr F' w d → Q w H' := fun F' H' w r s dd => k F' H' w r (((s1.trans s2).trans s3).trans s) dd
  have d3 := d1.mono (dr' := fr.dr) (s2.trans s3) fun _ z => z
  unfold dCut at e4
  split at e4
  · cases e4
    cases d3 with
    | tup h1 h2 =>
      refine .inl ⟨_, _, rfl, R3.core.sub.sqT h1, fun q => ?_, fun _ => put_tup R3 (h2.cut _ _) k'⟩
      have q' := q
      rw [h2.length] at q'
      exact k' F3 H3 _ R3 (Sub.refl _) (by rw [cut_whole q']; exact .tup h1 h2)
  · cases e4
    cases d3 with
    | lst h1 h2 => exact .inr ⟨_, _, rfl, SqL.of (R3.core.sub _ _ h1), put_lst R3 (h2.cut _ _) k'⟩
  · cases e4

/-! ### built-ins by values -/
/-- a built-in called -/
def CallD (K : PySem.W.Frag) (W : Wd) (r : List V → Hp → VK → Prop) (op : List D → Option D) : Prop := ∀ (fr : Fr) (F H : Hp) (σ : St) (ρ : Env) (n : Int) (xs : List D) (d : D) (vs : List V) (Q : VK), Rel K W fr F H σ ρ n → Dens K W fr.dr F vs xs → op xs = some d →
  (∀ F' H' w, Rel K W fr F' H' σ ρ n → Sub F F' → Den K W fr.dr F' w d → Q w H') → r vs H Q
def eB (op : List D → Option D) (f : EXs) : EX := fun ρ => M.bind (f ρ) fun xs => M.opt (op xs)
theorem tCB_of {K : PySem.W.Frag} {r : List V → Hp → VK → Prop} {op : List D → Option D} {f : EXs} (hd : CallD K W r op) {σ : St} {H : Hp} {Q : VK} (h : tD K W (eB op f) σ H Q) : tCB r (tDs K W f) σ H Q := by
  obtain ⟨fr, F, ρ, n, d, n', R, e, k⟩ := h
  obtain ⟨x, n1, e1, h⟩ := M.bind_ok e
  obtain ⟨e4, e5⟩ := M.opt_ok h
  subst e5
  exact ⟨fr, F, ρ, n, x, _, R, e1, fun F1 H1 vs R1 s1 d1 => hd fr F1 H1 σ ρ _ x d vs Q R1 d1 e4 fun F2 H2 w R2 s2 d2 => k F2 H2 w R2 (s1.trans s2) d2⟩
def dLen : List D → Option D
  | [.tup xs] => some (.int xs.length)
  | [.lst xs] => some (.int xs.length)
  | [.str x] => if x.length ≤ sizeLine then some (.int x.length) else none
  | _ => none
theorem q_len {K : PySem.W.Frag} : CallD K W (fun xs H Q => ∃ x n, xs = [x] ∧ LenV K x H n ∧ Q (.int n) H) dLen := by
  intro fr F H σ ρ n xs d vs Q R dx h k
  unfold dLen at h
  split at h
  · cases h
    cases dx with
    | cons h1 h2 =>
      cases h2
      cases h1 with
      | tup h3 h4 => exact ⟨_, _, rfl, .inr ⟨_, R.core.sub.sqT h3, rfl⟩, by rw [h4.length]; exact k F H _ R (Sub.refl _) (.int _)⟩
  · cases h
    cases dx with
    | cons h1 h2 =>
      cases h2
      cases h1 with
      | lst h3 h4 => exact ⟨_, _, rfl, .inl ⟨_, SqL.of (R.core.sub _ _ h3), rfl⟩, by rw [h4.length]; exact k F H _ R (Sub.refl _) (.int _)⟩
  · split at h
    · cases h
      cases dx with
      | cons h1 h2 =>
        cases h2
        cases h1
        exact ⟨_, _, rfl, ⟨‹_›, rfl⟩, k F H _ R (Sub.refl _) (.int _)⟩
    · cases h
  · cases h
end
end DL
end

section
set_option Elab.async false
set_option linter.all false
set_option autoImplicit false
set_option maxRecDepth 100000
namespace DL
open PySem PySem.Spec L2
section
variable {K : PySem.W.Frag} {W : Wd} {fr : Fr} {F F' H H' : Hp} {σ σ' : St} {ρ ρ' : Env} {n n' : Int}
/-! ### slots stored -/
theorem get_set_self {α : Type} {l : List α} {i : Nat} {a : α} (h : i < l.length) : (l.set i a)[i]? = some a := by simp [h]
theorem Rel.set (r : Rel K W fr F H σ ρ n) {i : Nat} {v : V} {d : D} (h : Den K W fr.dr F v d) : Rel K W fr F H (σ.set i (some v)) (ρ.set i (.val d)) n := by
  obtain ⟨ad, s⟩ := r.slots
  refine ⟨r.core, ad, by simp [s.len], fun j e q => ?_, fun j e q => ?_, fun j k e e' q q' => ?_⟩
  · by_cases hj : i = j
    · subst hj
      by_cases hi : i < ρ.length
      · rw [get_set_self hi] at q
        cases q
        exact ⟨v, get_set_self (by rw [s.len]; exact hi), h⟩
      · rw [List.getElem?_eq_none (by simpa using hi)] at q; cases q
    · rw [List.getElem?_set_ne hj] at q
      obtain ⟨u, h1, h2⟩ := s.val j e q
      exact ⟨u, by rw [List.getElem?_set_ne hj]; exact h1, h2⟩
  · by_cases hj : i = j
    · subst hj
      by_cases hi : i < ρ.length
      · rw [get_set_self hi] at q; cases q
      · rw [List.getElem?_eq_none (by simpa using hi)] at q; cases q
    · rw [List.getElem?_set_ne hj] at q
      obtain ⟨h1, h2⟩ := s.own j e q
      exact ⟨by rw [List.getElem?_set_ne hj]; exact h1, h2⟩
  · by_cases hj : i = j
    · subst hj
      by_cases hi : i < ρ.length
      · rw [get_set_self hi] at q; cases q
      · rw [List.getElem?_eq_none (by simpa using hi)] at q; cases q
    · by_cases hk : i = k
      · subst hk
        by_cases hi : i < ρ.length
        · rw [get_set_self hi] at q'; cases q'
        · rw [List.getElem?_eq_none (by simpa using hi)] at q'; cases q'
      · rw [List.getElem?_set_ne hj] at q
        rw [List.getElem?_set_ne hk] at q'
        exact s.inj j k e e' q q'
/-- a new object of one's own in a slot -/
theorem Rel.setOwn (r : Rel K W fr F H σ ρ n) {i : Nat} {p : Addr} {o : HO} {d : D} (hp : H p = none) (hd : isO d = false) (h : MDen K W fr.dr F (upd H p o) p d) : Rel K W fr F (upd H p o) (σ.set i (some (.ref p))) (ρ.set i (.own d)) n := by
  obtain ⟨ad, s⟩ := r.slots
  have hF := r.core.noF hp
  have kp : ∀ a u, H a = some u → upd H p o a = some u := fun a u q => by rw [upd_ne (ne_of_none q hp)]; exact q
  have old : ∀ (j : Nat) (e : D), ρ[j]? = some (.own e) → ad j ≠ p := fun j e q z => by
    obtain ⟨u, hu⟩ := (s.own j e q).2.2.2.2.1.there
    rw [z, hp] at hu; cases hu
  refine ⟨r.core.fresh' hp, fun j => if j = i then p else ad j, by simp [s.len], fun j e q => ?_, fun j e q => ?_, fun j k e e' q q' z => ?_⟩
  · by_cases hj : i = j
    · subst hj
      by_cases hi : i < ρ.length
      · rw [get_set_self hi] at q; cases q
      · rw [List.getElem?_eq_none (by simpa using hi)] at q; cases q
    · rw [List.getElem?_set_ne hj] at q
      obtain ⟨u, h1, h2⟩ := s.val j e q
      exact ⟨u, by rw [List.getElem?_set_ne hj]; exact h1, h2⟩
  · by_cases hj : i = j
    · subst hj
      by_cases hi : i < ρ.length
      · rw [get_set_self hi] at q
        cases q
        simp only [if_true]
        exact ⟨get_set_self (by rw [s.len]; exact hi), hF, r.core.ndr hp, .inl (r.core.noH0 hp), h, .inr ⟨hd, r.core.noH0 hp⟩⟩
      · rw [List.getElem?_eq_none (by simpa using hi)] at q; cases q
    · rw [List.getElem?_set_ne hj] at q
      obtain ⟨h1, h2, h3, h4, h5, h6⟩ := s.own j e q
      simp only [if_neg (Ne.symm hj)]
      exact ⟨by rw [List.getElem?_set_ne hj]; exact h1, h2, h3, h4, h5.mono (Sub.refl _) (fun u z => kp _ _ z), h6⟩
  · have len : ∀ {j : Nat} {e : D}, (ρ.set i (Sl.own d))[j]? = some (Sl.own e) → j ≠ i → ρ[j]? = some (Sl.own e) := fun {j e} q hj => by
      rw [List.getElem?_set_ne (Ne.symm hj)] at q; exact q
    by_cases hj : j = i
    · by_cases hk : k = i
      · rw [hj, hk]
      · simp only [if_pos hj, if_neg hk] at z
        exact absurd z.symm (old k e' (len q' hk))
    · by_cases hk : k = i
      · simp only [if_neg hj, if_pos hk] at z
        exact absurd z (old j e (len q hj))
      · simp only [if_neg hj, if_neg hk] at z
        exact s.inj j k e e' (len q hj) (len q' hk) z
/-- what is one's own, changed -/
theorem Rel.change (r : Rel K W fr F H σ ρ n) {i : Nat} {d d' : D} {o : HO} {ad : Nat → Addr} (s : Slots K W fr F H σ ρ ad) (hi : ρ[i]? = some (.own d)) (h : MDen K W fr.dr F (upd H (ad i) o) (ad i) d') (hd : isO d' = isO d) : Rel K W fr F (upd H (ad i) o) σ (ρ.set i (.own d')) n := by
  obtain ⟨h1, h2, h3, h4, h5, h6⟩ := s.own i d hi
  have hlt : i < ρ.length := (List.getElem?_eq_some_iff.mp hi).1
  have c := r.core
  have core : Core K W fr F (upd H (ad i) o) n := {
    sub := fun a u q => by rw [upd_ne (ne_of_none q h2)]; exact c.sub _ _ q
    base := fun a u q q2 q3 => by
      have ne : a ≠ ad i := fun z => by
        subst z
        rcases h4 with h4 | h4
        · rw [h4] at q; cases q
        · exact q3 h4
      rw [upd_ne ne]; exact c.base a u q q2 q3
    f0 := c.f0
    new := c.new
    there := fun a u q => by
      by_cases e : a = ad i
      · rw [e]; exact ⟨_, upd_same⟩
      · obtain ⟨o', z⟩ := c.there a u q
        exact ⟨o', by rw [upd_ne e]; exact z⟩
    draw := fun a e => by
      obtain ⟨q1, q2, q3⟩ := c.draw a e
      have ne : a ≠ ad i := fun z => h3 (by rw [← z]; exact e)
      exact ⟨q1, by rw [upd_ne ne]; exact q2, q3⟩ }
  refine ⟨core, ad, by simp [s.len], fun j e q => ?_, fun j e q => ?_, fun j k e e' q q' z => ?_⟩
  · by_cases hj : i = j
    · subst hj; rw [get_set_self hlt] at q; cases q
    · rw [List.getElem?_set_ne hj] at q
      exact s.val j e q
  · by_cases hj : i = j
    · subst hj
      rw [get_set_self hlt] at q
      cases q
      exact ⟨h1, h2, h3, h4, h, by rw [hd]; exact h6⟩
    · rw [List.getElem?_set_ne hj] at q
      obtain ⟨q1, q2, q3, q4, q5, q6⟩ := s.own j e q
      refine ⟨q1, q2, q3, q4, q5.mono (Sub.refl _) fun u z => ?_, q6⟩
      have ne : ad j ≠ ad i := fun w => hj (s.inj i j d e hi q w.symm)
      rw [upd_ne ne]; exact z
  · have key : ∀ {j : Nat} {e : D}, (ρ.set i (Sl.own d'))[j]? = some (Sl.own e) → ∃ e', ρ[j]? = some (Sl.own e') := fun {j e} q => by
      by_cases hj : i = j
      · subst hj; exact ⟨_, hi⟩
      · rw [List.getElem?_set_ne hj] at q; exact ⟨_, q⟩
    obtain ⟨a, qa⟩ := key q
    obtain ⟨b, qb⟩ := key q'
    exact s.inj j k a b qa qb z
/-- one's own, given out -/
def frz (i : Nat) (ρ : Env) : Env := match ρ[i]? with
  | some (.own d) => ρ.set i (.val d)
  | _ => ρ
def HO' (K : PySem.W.Frag) (W : Wd) (H : Hp) (a : Addr) : Option HO := H a
theorem Rel.freeze (r : Rel K W fr F H σ ρ n) {i : Nat} {d : D} {ad : Nat → Addr} (s : Slots K W fr F H σ ρ ad) (hi : ρ[i]? = some (.own d)) (hx : fr.H0 (ad i) = none) : ∃ F', Sub F F' ∧ Rel K W fr F' H σ (ρ.set i (.val d)) n := by
  obtain ⟨h1, h2, h3, h4, h5, h6⟩ := s.own i d hi
  obtain ⟨o, ho⟩ := h5.there
  have hlt : i < ρ.length := (List.getElem?_eq_some_iff.mp hi).1
  have c := r.core
  have up : Sub F (upd F (ad i) o) := fun a u q => by rw [upd_ne (ne_of_none q h2)]; exact q
  have core : Core K W fr (upd F (ad i) o) H n := {
    sub := fun a u q => by
      by_cases e : a = ad i
      · rw [e, upd_same] at q; rw [e, ho]; exact q
      · rw [upd_ne e] at q; exact c.sub _ _ q
    base := c.base
    f0 := c.f0.trans up
    new := fun a u q q2 => by
      have e : a ≠ ad i := ne_of_none q hx
      rw [upd_ne e]; exact c.new a u q q2
    there := c.there
    draw := fun a e => by
      obtain ⟨q1, q2, q3⟩ := c.draw a e
      have ne : a ≠ ad i := fun z => h3 (by rw [← z]; exact e)
      exact ⟨by rw [upd_ne ne]; exact q1, q2, up.sqL q3⟩ }
  have den : Den K W fr.dr (upd F (ad i) o) (.ref (ad i)) d := by
    cases d with
    | lst ds => obtain ⟨vs, e, q⟩ := h5; rw [ho] at e; cases e; exact .lst upd_same (q.mono up fun _ z => z)
    | dic ks ds => obtain ⟨vs, l, e, q⟩ := h5; rw [ho] at e; cases e; exact .dic l (.inl upd_same) (q.mono up fun _ z => z)
    | dit ks ds => obtain ⟨vs, l, e, q⟩ := h5; rw [ho] at e; cases e; exact .dit l (.inl upd_same) (q.mono up fun _ z => z)
    | obj c ks ds => obtain ⟨dx, vs, l, e, q⟩ := h5; rw [ho] at e; cases e; exact .obj l upd_same (q.mono up fun _ z => z)
    | non => exact h5.elim
    | bl _ => exact h5.elim
    | int _ => exact h5.elim
    | str _ => exact h5.elim
    | tup _ => exact h5.elim
    | drw => exact h5.elim
    | scr => exact h5.elim
  refine ⟨_, up, core, ad, by simp [s.len], fun j e q => ?_, fun j e q => ?_, fun j k e e' q q' z => ?_⟩
  · by_cases hj : i = j
    · subst hj; rw [get_set_self hlt] at q; cases q
      exact ⟨_, h1, den⟩
    · rw [List.getElem?_set_ne hj] at q
      obtain ⟨v, q1, q2⟩ := s.val j e q
      exact ⟨v, q1, q2.mono up fun _ z => z⟩
  · by_cases hj : i = j
    · subst hj; rw [get_set_self hlt] at q; cases q
    · rw [List.getElem?_set_ne hj] at q
      obtain ⟨q1, q2, q3, q4, q5, q6⟩ := s.own j e q
      have ne : ad j ≠ ad i := fun w => hj (s.inj i j d e hi q w.symm)
      exact ⟨q1, by rw [upd_ne ne]; exact q2, q3, q4, q5.mono up fun _ z => z, q6⟩
  · by_cases hj : i = j
    · subst hj; rw [get_set_self hlt] at q; cases q
    · by_cases hk : i = k
      · subst hk; rw [get_set_self hlt] at q'; cases q'
      · rw [List.getElem?_set_ne hj] at q
        rw [List.getElem?_set_ne hk] at q'
        exact s.inj j k e e' q q' z
end

/-! ### targets -/
abbrev GX := D → Env → Option Env
abbrev GXs := List D → Env → Option Env
def gV (i : Nat) : GX := fun d ρ => some (ρ.set i (.val d))
def gsN : GXs := fun ds ρ => match ds with | [] => some ρ | _ => none
def gsC (g : GX) (gs : GXs) : GXs := fun ds ρ => match ds with
  | [] => none
  | d :: r => (g d ρ).bind fun ρ1 => gs r ρ1
def gT (gs : GXs) : GX := fun d ρ => match d with | .tup ds => gs ds ρ | _ => none
theorem wipe_get (σ : St) (j : Nat) : ∀ vs : List Nat, (wipe σ vs)[j]? = if j ∈ vs then (if j < σ.length then some none else none) else σ[j]?
  | [] => by simp [wipe]
  | v :: vs => by
    unfold wipe
    by_cases hj : v = j
    · subst hj
      rw [if_pos List.mem_cons_self]
      by_cases hl : v < σ.length
      · rw [if_pos hl, get_set_self (by rw [wipe_length]; exact hl)]
      · rw [if_neg hl, List.getElem?_eq_none (by rw [List.length_set, wipe_length]; omega)]
    · rw [List.getElem?_set_ne hj, wipe_get σ j vs]
      have : (j ∈ v :: vs) = (j ∈ vs) := by simp [Ne.symm hj]
      simp only [this]
/-- the slots is alone have changed -/
def Wip (is : List Nat) (σ σ' : St) : Prop := ∀ vs : List Nat, (∀ i ∈ is, i ∈ vs) → wipe σ' vs = wipe σ vs
theorem Wip.refl (is : List Nat) (σ : St) : Wip is σ σ := fun _ _ => rfl
theorem Wip.trans {is : List Nat} {σ σ1 σ2 : St} (a : Wip is σ σ1) (b : Wip is σ1 σ2) : Wip is σ σ2 := fun vs h => (b vs h).trans (a vs h)
theorem Wip.mono {is js : List Nat} {σ σ1 : St} (a : Wip is σ σ1) (h : ∀ i ∈ is, i ∈ js) : Wip js σ σ1 := fun vs k => a vs fun i hi => k i (h i hi)
theorem Wip.set (σ : St) (i : Nat) (x : Option V) : Wip [i] σ (σ.set i x) := fun vs h => by
  have hi : i ∈ vs := h i (by simp)
  apply List.ext_getElem?
  intro j
  rw [wipe_get, wipe_get, List.length_set]
  by_cases hj : j ∈ vs
  · rw [if_pos hj, if_pos hj]
  · rw [if_neg hj, if_neg hj, List.getElem?_set_ne (fun e => hj (by rw [← e]; exact hi))]
theorem wipe_wipe (σ : St) (vs : List Nat) : wipe (wipe σ vs) vs = wipe σ vs := by
  apply List.ext_getElem?
  intro j
  rw [wipe_get, wipe_get, wipe_length]
  by_cases hj : j ∈ vs
  · rw [if_pos hj, if_pos hj]
  · rw [if_neg hj, if_neg hj]
/-- a target over data -/
def GOk (K : PySem.W.Frag) (W : Wd) (t : TG) (g : GX) (is : List Nat) : Prop := ∀ (fr : Fr) (F H : Hp) (σ : St) (ρ ρ' : Env) (n : Int) (v : V) (d : D) (Q : St → Hp → Prop), Rel K W fr F H σ ρ n → Den K W fr.dr F v d → g d ρ = some ρ' →
  (∀ σ', Rel K W fr F H σ' ρ' n → Wip is σ σ' → Q σ' H) → t v σ H Q
def GsOk (K : PySem.W.Frag) (W : Wd) (t : TGs) (g : GXs) (is : List Nat) : Prop := ∀ (fr : Fr) (F H : Hp) (σ : St) (ρ ρ' : Env) (n : Int) (vs : List V) (ds : List D) (Q : St → Hp → Prop), Rel K W fr F H σ ρ n → Dens K W fr.dr F vs ds → g ds ρ = some ρ' →
  (∀ σ', Rel K W fr F H σ' ρ' n → Wip is σ σ' → Q σ' H) → t vs σ H Q
section
variable {K : PySem.W.Frag} {W : Wd}
theorem q_gV (i : Nat) : GOk K W (gName i) (gV i) [i] := fun fr F H σ ρ ρ' n v d Q R hd e k => by
  cases e
  exact k _ (R.set hd) (Wip.set _ _ _)
theorem q_gsN : GsOk K W gNil gsN [] := fun fr F H σ ρ ρ' n vs ds Q R hd e k => by
  unfold gsN at e
  split at e
  · cases e; cases hd; exact ⟨rfl, k _ R (Wip.refl _ _)⟩
  · cases e
theorem q_gsC {t : TG} {u : TGs} {g : GX} {gs : GXs} {is js : List Nat} (h : GOk K W t g is) (h' : GsOk K W u gs js) : GsOk K W (gCons t u) (gsC g gs) (is ++ js) := fun fr F H σ ρ ρ' n vs ds Q R hd e k => by
  unfold gsC at e
  split at e
  · cases e
  · cases hd with
    | cons h1 h2 =>
      cases q : g _ ρ with
      | none => rw [q] at e; cases e
      | some ρ1 =>
        rw [q] at e
        exact ⟨_, _, rfl, h fr F H σ ρ ρ1 n _ _ _ R h1 q fun σ' R' w1 => h' fr F H σ' ρ1 ρ' n _ _ Q R' h2 e fun σ2 R2 w2 => k σ2 R2 ((w1.mono fun i hi => List.mem_append_left _ hi).trans (w2.mono fun i hi => List.mem_append_right _ hi))⟩
theorem gs_len {g : GXs} : True := trivial
/-- how many targets -/
def GLen (g : GXs) (m : Nat) : Prop := ∀ ds ρ ρ', g ds ρ = some ρ' → ds.length = m
theorem gl_N : GLen gsN 0 := fun ds ρ ρ' e => by
  unfold gsN at e
  split at e
  · rfl
  · cases e
theorem gl_C {g : GX} {gs : GXs} {m : Nat} (h : GLen gs m) : GLen (gsC g gs) (m + 1) := fun ds ρ ρ' e => by
  unfold gsC at e
  split at e
  · cases e
  · cases q : g _ ρ with
    | none => rw [q] at e; cases e
    | some ρ1 =>
      rw [q] at e
      simp [h _ _ _ e]
theorem q_gT {u : TGs} {gs : GXs} {m : Nat} {is : List Nat} (h : GsOk K W u gs is) (l : GLen gs m) : GOk K W (gTup K m u) (gT gs) is := fun fr F H σ ρ ρ' n v d Q R hd e k => by
  unfold gT at e
  split at e
  · cases hd with
    | tup h1 h2 => exact ⟨_, _, rfl, R.core.sub.sqT h1, by rw [h2.length]; exact l _ _ _ e, h fr F H σ ρ ρ' n _ _ Q R h2 e k⟩
  · cases e
end

/-! ### statements -/
section
variable {X : Cx} {W : Wd}
def sNx : SX := fun ρ => M.pure (.nx ρ)
def sBk : SX := fun ρ => M.pure (.bk ρ)
def sCt : SX := fun ρ => M.pure (.ct ρ)
def sSeq (g h : SX) : SX := fun ρ => M.bind (g ρ) fun o => match o with
  | .nx ρ' => h ρ'
  | .bk ρ' => M.pure (.bk ρ')
  | .ct ρ' => M.pure (.ct ρ')
  | .ret d => M.pure (.ret d)
def sRet (f : EX) : SX := fun ρ => M.bind (f ρ) fun d => M.pure (.ret d)
def sRetN : SX := fun ρ => M.pure (.ret .non)
def sExp (f : EX) : SX := fun ρ => M.bind (f ρ) fun _ => M.pure (.nx ρ)
def sAsg (g : GX) (f : EX) : SX := fun ρ => M.bind (f ρ) fun d => M.bind (M.opt (g d ρ)) fun ρ' => M.pure (.nx ρ')
def sIf (t : TX) (g h : SX) : SX := fun ρ => M.bind (t ρ) fun b => match b with | true => g ρ | false => h ρ
def sNo : SX := fun _ => M.opt none
theorem S_nil : PDSs X W [] sNx := imp_Ss pss_nil fun E σ H ⟨fr, F, ρ, n, o, n', R, e, k⟩ => by
  obtain ⟨h1, h2⟩ := M.pure_ok e
  subst h1 h2
  exact k F H σ R (Sub.refl _)
theorem S_pass {pos : Pos} : PDS X W (.Pass pos) sNx := imp_S ps_pass fun E σ H ⟨fr, F, ρ, n, o, n', R, e, k⟩ => by
  obtain ⟨h1, h2⟩ := M.pure_ok e
  subst h1 h2
  exact k F H σ R (Sub.refl _)
theorem S_break {pos : Pos} : PDS X W (.Break pos) sBk := imp_S ps_break fun E σ H ⟨fr, F, ρ, n, o, n', R, e, k⟩ => by
  obtain ⟨h1, h2⟩ := M.pure_ok e
  subst h1 h2
  exact k F H σ R (Sub.refl _)
theorem S_cont {pos : Pos} : PDS X W (.Continue pos) sCt := imp_S ps_continue fun E σ H ⟨fr, F, ρ, n, o, n', R, e, k⟩ => by
  obtain ⟨h1, h2⟩ := M.pure_ok e
  subst h1 h2
  exact k F H σ R (Sub.refl _)
/-- a statement that is not reached -/
theorem S_no {st : Stmt} : PDS X W st sNo := imp_S ps_never fun E σ H ⟨fr, F, ρ, n, o, n', R, e, k⟩ => by
  obtain ⟨h1, h2⟩ := M.opt_ok e
  cases h1
theorem S_one {st : Stmt} {g : SX} (h : PDS X W st g) : PDSs X W [st] g := pss_one h
theorem S_cons {st : Stmt} {r : List Stmt} {g h : SX} (hg : PDS X W st g) (hh : PDSs X W r h) : PDSs X W (st :: r) (sSeq g h) := imp_Ss (pss_cons hg hh) fun E σ H ⟨fr, F, ρ, n, o, n', R, e, k⟩ => by
  obtain ⟨o1, n1, e1, h⟩ := M.bind_ok e
  refine ⟨fr, F, ρ, n, o1, n1, R, e1, ?_⟩
  cases o1 with
  | nx ρ1 => exact fun F1 H1 σ1 R1 s1 => ⟨fr, F1, ρ1, n1, o, n', R1, h, k.mono s1⟩
  | bk ρ1 =>
    obtain ⟨h1, h2⟩ := M.pure_ok h
    subst h1 h2
    exact k
  | ct ρ1 =>
    obtain ⟨h1, h2⟩ := M.pure_ok h
    subst h1 h2
    exact k
  | ret d =>
    obtain ⟨h1, h2⟩ := M.pure_ok h
    subst h1 h2
    exact k
theorem S_ret {e : Expr} {f : EX} {pos : Pos} (he : PD X W e f) : PDS X W (.Return (some e) pos) (sRet f) := imp_S (ps_ret he) fun E σ H ⟨fr, F, ρ, n, o, n', R, e, k⟩ => by
  obtain ⟨x, n1, e1, h⟩ := M.bind_ok e
  obtain ⟨h1, h2⟩ := M.pure_ok h
  subst h1 h2
  exact ⟨fr, F, ρ, n, x, _, R, e1, fun F1 H1 v R1 s1 d1 => k F1 H1 v R1.core s1 d1⟩
theorem S_retN {pos : Pos} : PDS X W (.Return none pos) sRetN := imp_S ps_retN fun E σ H ⟨fr, F, ρ, n, o, n', R, e, k⟩ => by
  obtain ⟨h1, h2⟩ := M.pure_ok e
  subst h1 h2
  exact k F H _ R.core (Sub.refl _) .non
theorem S_exp {e : Expr} {f : EX} {pos : Pos} (he : PD X W e f) (hs : swapsWith e none pos.line X.env = pure false := by rfl) : PDS X W (.Expr e pos) (sExp f) := imp_S (ps_expr he hs) fun E σ H ⟨fr, F, ρ, n, o, n', R, e, k⟩ => by
  obtain ⟨x, n1, e1, h⟩ := M.bind_ok e
  obtain ⟨h1, h2⟩ := M.pure_ok h
  subst h1 h2
  exact ⟨fr, F, ρ, n, x, _, R, e1, fun F1 H1 v R1 s1 d1 => k F1 H1 σ R1 s1⟩
theorem S_asg {tg e : Expr} {f : EX} {t : TG} {g : GX} {pos : Pos} (he : PD X W e f) (ht : PG X tg t) {is : List Nat} (hg : GOk X.K W t g is) (hs : swapsWithSole [tg] e pos.line X.env = pure false := by rfl) (hw : swappedStores [tg] e X.env = pure none := by rfl)
    (h1 : (assignEach [tg] X.env).map (·.2) = [assign tg X.env] := by rfl) : PDS X W (.Assign [tg] e pos) (sAsg g f) := imp_S (ps_asg he ht hs hw h1) fun E σ H ⟨fr, F, ρ, n, o, n', R, e, k⟩ => by
  obtain ⟨x, n1, e1, ha⟩ := M.bind_ok e
  obtain ⟨ρ', n2, e2, h⟩ := M.bind_ok ha
  obtain ⟨h1, h2⟩ := M.pure_ok h
  obtain ⟨h3, h4⟩ := M.opt_ok e2
  clear ha h
  subst h4
  subst h1 h2
  exact ⟨fr, F, ρ, n, x, _, R, e1, fun F1 H1 v R1 s1 d1 => hg fr F1 H1 σ ρ ρ' _ v x _ R1 d1 h3 fun σ' R' _ => k F1 H1 σ' R' s1⟩
theorem S_if {c : Expr} {a b : List Stmt} {t : TX} {g h : SX} {pos : Pos} (hc : PDT X W c t) (ha : PDSs X W a g) (hb : PDSs X W b h) : PDS X W (.If c a b pos) (sIf t g h) := imp_S (ps_if hc ha hb) fun E σ H ⟨fr, F, ρ, n, o, n', R, e, k⟩ => by
  obtain ⟨b, n1, e1, h⟩ := M.bind_ok e
  refine ⟨fr, F, ρ, n, b, n1, R, e1, fun F1 H1 R1 s1 => ?_⟩
  cases b with
  | true =>
    rw [if_pos rfl]
    exact ⟨fr, F1, ρ, n1, o, n', R1, h, k.mono s1⟩
  | false =>
    rw [if_neg Bool.false_ne_true]
    exact ⟨fr, F1, ρ, n1, o, n', R1, h, k.mono s1⟩
/-- a, b = x, y and a, b, c = x, y, z, all plain locals -/
def sPar (is : List Nat) (f : EXs) : SX := fun ρ => M.bind (f ρ) fun ds => if ds.length = is.length then M.pure (.nx ((is.zip ds).foldl (fun r p => r.set p.1 (.val p.2)) ρ)) else M.opt none
theorem S_par2 {i j : Nat} {x y : Str} {a b : Expr} {f : EXs} {px py pt pos : Pos} {kt k2 pt2} (h : PS X (.Assign [.Tuple [.Name x px, .Name y py] kt pt] (.Tuple [a, b] k2 pt2) pos) (tPar i j (tDs X.K W f))) : PDS X W (.Assign [.Tuple [.Name x px, .Name y py] kt pt] (.Tuple [a, b] k2 pt2) pos) (sPar [i, j] f) := imp_S h fun E σ H ⟨fr, F, ρ, n, o, n', R, e, k⟩ => by
  obtain ⟨ds, n1, e1, h⟩ := M.bind_ok e
  refine ⟨fr, F, ρ, n, ds, n1, R, e1, fun F1 H1 vs R1 s1 d1 => ?_⟩
  split at h
  · obtain ⟨h1, h2⟩ := M.pure_ok h
    subst h1 h2
    cases d1 with
    | nil => simp at *
    | cons q1 d2 =>
      cases d2 with
      | nil => simp at *
      | cons q2 d3 =>
        cases d3 with
        | cons _ _ => simp at *
        | nil => exact ⟨_, _, rfl, k F1 H1 _ ((R1.set q1).set q2) s1⟩
  · cases (M.opt_ok h).1
theorem S_par3 {i j l : Nat} {x y z : Str} {a b c : Expr} {f : EXs} {px py pz pt pos : Pos} {kt k2 pt2} (h : PS X (.Assign [.Tuple [.Name x px, .Name y py, .Name z pz] kt pt] (.Tuple [a, b, c] k2 pt2) pos) (tPar3 i j l (tDs X.K W f))) : PDS X W (.Assign [.Tuple [.Name x px, .Name y py, .Name z pz] kt pt] (.Tuple [a, b, c] k2 pt2) pos) (sPar [i, j, l] f) := imp_S h fun E σ H ⟨fr, F, ρ, n, o, n', R, e, k⟩ => by
  obtain ⟨ds, n1, e1, h⟩ := M.bind_ok e
  refine ⟨fr, F, ρ, n, ds, n1, R, e1, fun F1 H1 vs R1 s1 d1 => ?_⟩
  split at h
  · obtain ⟨h1, h2⟩ := M.pure_ok h
    subst h1 h2
    cases d1 with
    | nil => simp at *
    | cons q1 d2 =>
      cases d2 with
      | nil => simp at *
      | cons q2 d3 =>
        cases d3 with
        | nil => simp at *
        | cons q3 d4 =>
          cases d4 with
          | cons _ _ => simp at *
          | nil => exact ⟨_, _, _, rfl, k F1 H1 _ (((R1.set q1).set q2).set q3) s1⟩
  · cases (M.opt_ok h).1
end

/-! ### loops -/
section
variable {X : Cx} {W : Wd}
/-- an iterator that hands on ds -/
def ItOk (K : PySem.W.Frag) (W : Wd) (dr : Option Addr) (F0 : Hp) (J : It) (ds : List D) : Prop := ∀ (fr : Fr) (F H : Hp) (σ : St) (ρ : Env) (n : Int) (i : Nat), fr.dr = dr → Rel K W fr F H σ ρ n → Sub F0 F →
  (∀ d, ds[i]? = some d → J.go i H ∧ ∀ x H', J.yld i H x H' → ∃ F', Rel K W fr F' H' σ ρ n ∧ Sub F F' ∧ Den K W dr F' x d) ∧ (i = ds.length → J.stop i H)
abbrev IX := Env → M (List D)
def tI (K : PySem.W.Frag) (W : Wd) (f : IX) : TI := fun σ H R => ∃ fr F ρ n ds n', Rel K W fr F H σ ρ n ∧ f ρ n = some (.ok ds, n') ∧
  ∀ F' H' J, Rel K W fr F' H' σ ρ n' → Sub F F' → ItOk K W fr.dr F' J ds → R J H'
abbrev PDI (X : Cx) (W : Wd) (tg e : Expr) (f : IX) : Prop := PI X tg e (tI X.K W f)
theorem imp_I {tg e : Expr} {t t' : TI} (h : PI X tg e t) (k : ∀ σ H R, t' σ H R → t σ H R) : PI X tg e t' := ⟨fun pins s σ H R I q => h.run pins s σ H R I (k σ H R q)⟩
def iSeq (K : PySem.W.Frag) (tl : TE) : TI := fun σ H R => tl σ H fun x H1 => ∃ a, x = .ref a ∧ (((∃ xs, SqL K H1 a xs) ∧ R (Itl K a) H1) ∨ ((∃ xs, SqT K H1 a xs) ∧ R (Itt K a) H1))
theorem pi_seq {tg l : Expr} {tl : TE} (hl : PE X l tl) : PI X tg l (iSeq X.K tl) := by
  refine ⟨fun pins s σ H R I h => ?_⟩
  refine thn (hl.run pins s σ H _ I h) fun v s1 ⟨x, H1, I1, r1, q1⟩ => ?_
  obtain ⟨a, e, q⟩ := q1
  subst e
  cases r1
  rcases q with ⟨⟨xs, hq⟩, q⟩ | ⟨⟨xs, hq⟩, q⟩
  · obtain ⟨its, rv, p, hz⟩ := I1.list hq
    refine wpAny_pyIter_list p.isList ?_
    refine ⟨s1.heap.objs.size, [s1.heap.objs.size], _, _, H1, rfl, I1.kept (t' := s1.toks) fun b o e => Heap.get?_push_of_some _ e, turn_list a _, ⟨_, Heap.get?_push_size _ rfl, rfl, rfl⟩, fun b hb => ?_, q⟩
    have e : b = s1.heap.objs.size := by simpa using hb
    subst e
    exact I1.fpOk (Nat.le_refl _) (I1.hok.fresh (Nat.le_refl _))
  · obtain ⟨its, rv, p, hz⟩ := I1.tuple hq
    refine wpAny_pyIter_tuple (show s1.heap.IsTuple a its.toArray from p) ?_
    refine ⟨s1.heap.objs.size, [s1.heap.objs.size], _, _, H1, rfl, I1.kept (t' := s1.toks) fun b o e => Heap.get?_push_of_some _ e, turn_tuple a _, ⟨_, Heap.get?_push_size _ rfl, rfl, rfl⟩, fun b hb => ?_, q⟩
    have e : b = s1.heap.objs.size := by simpa using hb
    subst e
    exact I1.fpOk (Nat.le_refl _) (I1.hok.fresh (Nat.le_refl _))
def dItems : D → Option (List D)
  | .tup xs => some xs
  | .lst xs => some xs
  | .scr => none
  | _ => none
def iOf (f : EX) : IX := fun ρ => M.bind (f ρ) fun d => M.opt (dItems d)
theorem it_list {K : PySem.W.Frag} {dr : Option Addr} {F0 : Hp} {a : Addr} {vs : List V} {ds : List D} (h : F0 a = some (.lst vs)) (hd : Dens K W dr F0 vs ds) : ItOk K W dr F0 (Itl K a) ds := fun fr F H σ ρ n i edr R s => by
  have hH : H a = some (.lst vs) := R.core.sub _ _ (s _ _ h)
  refine ⟨fun d e => ?_, fun e => ⟨vs, SqL.of hH, by rw [hd.length, e]; exact Nat.le_refl _⟩⟩
  obtain ⟨v, e1, e2⟩ := hd.get e
  refine ⟨⟨vs, v, SqL.of hH, e1⟩, fun x H' ⟨q1, q2⟩ => ?_⟩
  subst q1
  have := q2 vs (SqL.of hH)
  rw [e1] at this
  cases this
  exact ⟨F, R, Sub.refl _, e2.mono s fun _ z => z⟩
theorem it_tup {K : PySem.W.Frag} {dr : Option Addr} {F0 : Hp} {a : Addr} {vs : List V} {ds : List D} (h : SqT K F0 a vs) (hd : Dens K W dr F0 vs ds) : ItOk K W dr F0 (Itt K a) ds := fun fr F H σ ρ n i edr R s => by
  have hH : SqT K H a vs := R.core.sub.sqT (s.sqT h)
  refine ⟨fun d e => ?_, fun e => ⟨vs, hH, by rw [hd.length, e]; exact Nat.le_refl _⟩⟩
  obtain ⟨v, e1, e2⟩ := hd.get e
  refine ⟨⟨vs, v, hH, e1⟩, fun x H' ⟨q1, q2⟩ => ?_⟩
  subst q1
  have := q2 vs hH
  rw [e1] at this
  cases this
  exact ⟨F, R, Sub.refl _, e2.mono s fun _ z => z⟩
theorem i_of {tg l : Expr} {f : EX} (h : PD X W l f) : PDI X W tg l (iOf f) := imp_I (pi_seq h) fun σ H R ⟨fr, F, ρ, n, ds, n', R0, e, k⟩ => by
  obtain ⟨x, n1, e1, h⟩ := M.bind_ok e
  obtain ⟨h1, h2⟩ := M.opt_ok h
  subst h2
  refine ⟨fr, F, ρ, n, x, _, R0, e1, fun F1 H1 v R1 s1 d1 => ?_⟩
  unfold dItems at h1
  split at h1
  · cases h1
    cases d1 with
    | tup q1 q2 => exact ⟨_, rfl, .inr ⟨⟨_, R1.core.sub.sqT q1⟩, k F1 H1 _ R1 s1 (it_tup q1 q2)⟩⟩
  · cases h1
    cases d1 with
    | lst q1 q2 => exact ⟨_, rfl, .inl ⟨⟨_, SqL.of (R1.core.sub _ _ q1)⟩, k F1 H1 _ R1 s1 (it_list q1 q2)⟩⟩
  · cases h1
  · cases h1
/-- range -/
def rngD (lo hi : Int) : List D := (List.range (hi - lo).toNat).map fun i => .int (lo + (i : Nat))
theorem it_rng {K : PySem.W.Frag} {dr : Option Addr} {F0 : Hp} {lo hi : Int} : ItOk K W dr F0 (Itr lo (hi - lo).toNat) (rngD lo hi) := fun fr F H σ ρ n i edr R s => by
  have hl : (rngD lo hi).length = (hi - lo).toNat := by simp [rngD]
  refine ⟨fun d e => ?_, fun e => by show (hi - lo).toNat ≤ i; rw [e, hl]; exact Nat.le_refl _⟩
  have hi' : i < (hi - lo).toNat := by
    have := (List.getElem?_eq_some_iff.mp e).1
    omega
  refine ⟨hi', fun x H' ⟨q1, q2⟩ => ?_⟩
  subst q1 q2
  refine ⟨F, R, Sub.refl _, ?_⟩
  have : d = .int (lo + (i : Nat)) := by
    simp [rngD, hi'] at e
    exact e.symm
  rw [this]
  exact .int _
def small62 (i : Int) : Bool := decide (-(2 ^ 62) ≤ i) && decide (i < 2 ^ 62)
theorem small62_ok {i : Int} (h : small62 i = true) : -(2 ^ 62) ≤ i ∧ i < 2 ^ 62 := by
  unfold small62 at h
  simp only [Bool.and_eq_true, decide_eq_true_eq] at h
  exact h
def dRng1 : List D → Option (List D)
  | [.int j] => if small62 j then some (rngD 0 j) else none
  | _ => none
def dRng2 : List D → Option (List D)
  | [.int i, .int j] => if small62 i && small62 j then some (rngD i j) else none
  | _ => none
def iRng1D (f : EXs) : IX := fun ρ => M.bind (f ρ) fun ds => M.opt (dRng1 ds)
def iRng2D (f : EXs) : IX := fun ρ => M.bind (f ρ) fun ds => M.opt (dRng2 ds)
theorem i_rng1 {tg a : Expr} {f : EXs} {p pos : Pos} (hg : Gl X "range") (hm : X.mg "range" = none) (ha : PDs X W [a] f) (hs : starEach [a] X.env = [(false, eval a X.env)] := by rfl) : PDI X W tg (.Call (.Name "range" p) [a] [] pos) (iRng1D f) := imp_I (pi_range1 hg hm ha hs) fun σ H R ⟨fr, F, ρ, n, ds, n', R0, e, k⟩ => by
  obtain ⟨x, n1, e1, h⟩ := M.bind_ok e
  obtain ⟨h1, h2⟩ := M.opt_ok h
  subst h2
  refine ⟨fr, F, ρ, n, x, _, R0, e1, fun F1 H1 vs R1 s1 d1 => ?_⟩
  unfold dRng1 at h1
  split at h1
  · split at h1
    · rename_i j q
      cases h1
      cases d1 with
      | cons q1 q2 =>
        cases q2; cases q1
        obtain ⟨a1, a2⟩ := small62_ok q
        refine ⟨_, rfl, a1, a2, k F1 H1 _ R1 s1 ?_⟩
        have := it_rng (K := X.K) (W := W) (dr := fr.dr) (F0 := F1) (lo := 0) (hi := j)
        rw [Int.sub_zero] at this
        exact this
    · cases h1
  · cases h1
theorem i_rng2 {tg a b : Expr} {f : EXs} {p pos : Pos} (hg : Gl X "range") (hm : X.mg "range" = none) (ha : PDs X W [a, b] f) (hs : starEach [a, b] X.env = [(false, eval a X.env), (false, eval b X.env)] := by rfl) (hs2 : starEach [b] X.env = [(false, eval b X.env)] := by rfl) : PDI X W tg (.Call (.Name "range" p) [a, b] [] pos) (iRng2D f) := imp_I (pi_range2 hg hm ha hs hs2) fun σ H R ⟨fr, F, ρ, n, ds, n', R0, e, k⟩ => by
  obtain ⟨x, n1, e1, h⟩ := M.bind_ok e
  obtain ⟨h1, h2⟩ := M.opt_ok h
  subst h2
  refine ⟨fr, F, ρ, n, x, _, R0, e1, fun F1 H1 vs R1 s1 d1 => ?_⟩
  unfold dRng2 at h1
  split at h1
  · split at h1
    · rename_i i j q
      cases h1
      rw [Bool.and_eq_true] at q
      cases d1 with
      | cons q1 q2 =>
        cases q2 with
        | cons q3 q4 =>
          cases q4; cases q1; cases q3
          obtain ⟨a1, a2⟩ := small62_ok q.1
          obtain ⟨a3, a4⟩ := small62_ok q.2
          exact ⟨_, _, rfl, ⟨a1, a2, a3, a4⟩, k F1 H1 _ R1 s1 it_rng⟩
    · cases h1
  · cases h1

/-! ### for -/
def forD (g : GX) (body : SX) : List D → SX
  | [] => fun ρ => M.pure (.nx ρ)
  | d :: ds => fun ρ => M.bind (M.opt (g d ρ)) fun ρ1 => M.bind (body ρ1) fun o => match o with
    | .nx ρ2 => forD g body ds ρ2
    | .ct ρ2 => forD g body ds ρ2
    | .bk ρ2 => M.pure (.nx ρ2)
    | .ret d => M.pure (.ret d)
def sFor (g : GX) (it : IX) (body : SX) : SX := fun ρ => M.bind (it ρ) fun ds => forD g body ds ρ
theorem S_for {tg iter : Expr} {b : List Stmt} {t : TG} {g : GX} {it : IX} {body : SX} {pos : Pos} (hp : PassesOwn (model X.prog X.w) X.A X.env X.xe) (hc : X.calm = true) (hi : PDI X W tg iter it) (ht : PG X tg t) {is : List Nat} (hg : GOk X.K W t g is) (hb : PDSs X W b body)
    (hs : ∀ x, foldedSetIterable iter X.env x = pure x := by intro _; rfl) : PDS X W (.For tg iter b [] pos) (sFor g it body) := imp_S (ps_for hp hc hi ht hb hs) fun E σ H ⟨fr, F, ρ, n, o, n', R, e, k⟩ => by
  obtain ⟨ds, n1, e1, h⟩ := M.bind_ok e
  refine ⟨fr, F, ρ, n, ds, n1, R, e1, fun F1 H1 J R1 s1 ok => ?_⟩
  refine ⟨fun i m σ' H' => m = ds.length - i ∧ i ≤ ds.length ∧ ∃ F' ρ' n'', Rel X.K W fr F' H' σ' ρ' n'' ∧ Sub F1 F' ∧ forD g body (ds.drop i) ρ' n'' = some (.ok o, n'), ⟨ds.length, by simp, Nat.zero_le _, F1, ρ, n1, R1, Sub.refl _, h⟩, ?_⟩
  rintro i m σ2 H2 ⟨rfl, hi, F2, ρ2, n2, R2, s2, e2⟩
  by_cases hlt : i < ds.length
  · refine .inr ?_
    rw [List.drop_eq_getElem_cons hlt] at e2
    obtain ⟨ρ3, n3, e3, h3⟩ := M.bind_ok e2
    obtain ⟨e4, e5⟩ := M.opt_ok e3
    subst e5
    obtain ⟨o1, n4, e6, h4⟩ := M.bind_ok h3
    obtain ⟨g1, g2⟩ := (ok fr F2 H2 σ2 ρ2 _ i rfl R2 s2).1 ds[i] (by simp [hlt])
    refine ⟨g1, fun σ' H' => ∃ F' ρ' n'', Rel X.K W fr F' H' σ' ρ' n'' ∧ Sub F1 F' ∧ forD g body (ds.drop (i + 1)) ρ' n'' = some (.ok o, n'), fun σ' H' ⟨F', ρ', n'', a1, a2, a3⟩ => ⟨_, by omega, rfl, hlt, F', ρ', n'', a1, a2, a3⟩, fun x H' y => ?_⟩
    obtain ⟨F3, R3, s3, d3⟩ := g2 x H' y
    refine hg fr F3 H' σ2 ρ2 ρ3 _ x _ _ R3 d3 e4 fun σ3 R4 _ => ?_
    refine ⟨fr, F3, ρ3, _, o1, n4, R4, e6, ?_⟩
    cases o1 with
    | nx ρ5 => exact fun F5 H5 σ5 R5 s5 => ⟨F5, ρ5, n4, R5, (s2.trans s3).trans s5, h4⟩
    | ct ρ5 => exact fun F5 H5 σ5 R5 s5 => ⟨F5, ρ5, n4, R5, (s2.trans s3).trans s5, h4⟩
    | bk ρ5 =>
      obtain ⟨a1, a2⟩ := M.pure_ok h4
      subst a1 a2
      exact fun F5 H5 σ5 R5 s5 => k F5 H5 σ5 R5 ((((s1.trans s2).trans s3)).trans s5)
    | ret d =>
      obtain ⟨a1, a2⟩ := M.pure_ok h4
      subst a1 a2
      exact fun F5 H5 v c5 s5 d5 => k F5 H5 v c5 ((((s1.trans s2).trans s3)).trans s5) d5
  · have ei : i = ds.length := by omega
    refine .inl ⟨(ok fr F2 H2 σ2 ρ2 _ i rfl R2 s2).2 ei, ?_⟩
    rw [ei, List.drop_length] at e2
    obtain ⟨a1, a2⟩ := M.pure_ok e2
    subst a1 a2
    exact k F2 H2 σ2 R2 (s1.trans s2)

/-! ### while, with so many turns at most -/
def whileD (t : TX) (body : SX) : Nat → SX
  | 0 => fun _ => M.opt none
  | m + 1 => fun ρ => M.bind (t ρ) fun b => match b with
    | false => M.pure (.nx ρ)
    | true => M.bind (body ρ) fun o => match o with
      | .nx ρ2 => whileD t body m ρ2
      | .ct ρ2 => whileD t body m ρ2
      | .bk ρ2 => M.pure (.nx ρ2)
      | .ret d => M.pure (.ret d)
def sWhile (m : Env → Nat) (t : TX) (body : SX) : SX := fun ρ => whileD t body (m ρ) ρ
theorem S_while {c : Expr} {b : List Stmt} {t : TX} {body : SX} {pos : Pos} (m : Env → Nat) (hp : PassesOwn (model X.prog X.w) X.A X.env X.xe) (hc : PDT X W c t) (hb : PDSs X W b body) : PDS X W (.While c b [] pos) (sWhile m t body) := imp_S (ps_while hp hc hb) fun E σ H ⟨fr, F, ρ, n, o, n', R, e, k⟩ => by
  refine ⟨fun j σ' H' => ∃ F' ρ' n'', Rel X.K W fr F' H' σ' ρ' n'' ∧ Sub F F' ∧ whileD t body j ρ' n'' = some (.ok o, n'), ⟨m ρ, F, ρ, n, R, Sub.refl _, e⟩, ?_⟩
  rintro j σ1 H1 ⟨F1, ρ1, n1, R1, s1, e1⟩
  cases j with
  | zero =>
    rw [whileD] at e1
    cases (M.opt_ok e1).1
  | succ j =>
    obtain ⟨bb, n2, e2, h2⟩ := M.bind_ok e1
    refine ⟨fr, F1, ρ1, n1, bb, n2, R1, e2, fun F2 H2 R2 s2 => ?_⟩
    cases bb with
    | false =>
      obtain ⟨a1, a2⟩ := M.pure_ok h2
      subst a1 a2
      rw [if_neg Bool.false_ne_true]
      exact k F2 H2 σ1 R2 (s1.trans s2)
    | true =>
      obtain ⟨o1, n4, e6, h4⟩ := M.bind_ok h2
      rw [if_pos rfl]
      refine ⟨fun σ' H' => ∃ F' ρ' n'', Rel X.K W fr F' H' σ' ρ' n'' ∧ Sub F F' ∧ whileD t body j ρ' n'' = some (.ok o, n'), fun σ' H' q => ⟨j, Nat.lt_succ_self _, q⟩, ?_⟩
      refine ⟨fr, F2, ρ1, n2, o1, n4, R2, e6, ?_⟩
      cases o1 with
      | nx ρ5 => exact fun F5 H5 σ5 R5 s5 => ⟨F5, ρ5, n4, R5, (s1.trans s2).trans s5, h4⟩
      | ct ρ5 => exact fun F5 H5 σ5 R5 s5 => ⟨F5, ρ5, n4, R5, (s1.trans s2).trans s5, h4⟩
      | bk ρ5 =>
        obtain ⟨a1, a2⟩ := M.pure_ok h4
        subst a1 a2
        exact fun F5 H5 σ5 R5 s5 => k F5 H5 σ5 R5 ((s1.trans s2).trans s5)
      | ret d =>
        obtain ⟨a1, a2⟩ := M.pure_ok h4
        subst a1 a2
        exact fun F5 H5 v c5 s5 d5 => k F5 H5 v c5 ((s1.trans s2).trans s5) d5

/-! ### comprehensions -/
def wipeD (ρ : Env) : List Nat → Env
  | [] => ρ
  | v :: vs => (wipeD ρ vs).set v .no
theorem wipeD_length (ρ : Env) : ∀ vs, (wipeD ρ vs).length = ρ.length
  | [] => rfl
  | v :: vs => by unfold wipeD; rw [List.length_set, wipeD_length ρ vs]
theorem Rel.wipe1 {K : PySem.W.Frag} {fr : Fr} {F H : Hp} {σ : St} {ρ : Env} {n : Int} (r : Rel K W fr F H σ ρ n) (i : Nat) : Rel K W fr F H (σ.set i none) (ρ.set i .no) n := by
  obtain ⟨ad, s⟩ := r.slots
  have nd : ∀ {j : Nat} {e : Sl}, e ≠ .no → (ρ.set i Sl.no)[j]? = some e → i ≠ j ∧ ρ[j]? = some e := fun {j e} ne q => by
    by_cases hj : i = j
    · subst hj
      by_cases hi : i < ρ.length
      · rw [get_set_self hi] at q; cases q; exact absurd rfl ne
      · rw [List.getElem?_eq_none (by simpa using hi)] at q; cases q
    · rw [List.getElem?_set_ne hj] at q; exact ⟨hj, q⟩
  refine ⟨r.core, ad, by simp [s.len], fun j e q => ?_, fun j e q => ?_, fun j k e e' q q' => ?_⟩
  · obtain ⟨hj, q⟩ := nd (by simp) q
    obtain ⟨v, h1, h2⟩ := s.val j e q
    exact ⟨v, by rw [List.getElem?_set_ne hj]; exact h1, h2⟩
  · obtain ⟨hj, q⟩ := nd (by simp) q
    obtain ⟨h1, h2⟩ := s.own j e q
    exact ⟨by rw [List.getElem?_set_ne hj]; exact h1, h2⟩
  · exact s.inj j k e e' (nd (by simp) q).2 (nd (by simp) q').2
theorem Rel.wipe {K : PySem.W.Frag} {fr : Fr} {F H : Hp} {σ : St} {ρ : Env} {n : Int} (r : Rel K W fr F H σ ρ n) : ∀ vs, Rel K W fr F H (wipe σ vs) (wipeD ρ vs) n
  | [] => r
  | v :: vs => by unfold L2.wipe wipeD; exact (Rel.wipe r vs).wipe1 v
/-- one's own, out of sight -/
def hide : Env → Env
  | [] => []
  | .own _ :: r => .no :: hide r
  | .no :: r => .no :: hide r
  | .val d :: r => .val d :: hide r
theorem hide_length : ∀ ρ : Env, (hide ρ).length = ρ.length
  | [] => rfl
  | .own _ :: r => by simp [hide, hide_length r]
  | .no :: r => by simp [hide, hide_length r]
  | .val _ :: r => by simp [hide, hide_length r]
theorem hide_get : ∀ (ρ : Env) (i : Nat) (e : Sl), (hide ρ)[i]? = some e → e ≠ .no → ρ[i]? = some e ∧ ∃ d, e = .val d
  | [], _, _, h, _ => by simp [hide] at h
  | .own d :: r, 0, e, h, ne => by simp [hide] at h; exact absurd h.symm ne
  | .no :: r, 0, e, h, ne => by simp [hide] at h; exact absurd h.symm ne
  | .val d :: r, 0, e, h, ne => by simp [hide] at h; exact ⟨by simp [h], d, h.symm⟩
  | .own d :: r, i + 1, e, h, ne => by simp [hide] at h; simpa using hide_get r i e h ne
  | .no :: r, i + 1, e, h, ne => by simp [hide] at h; simpa using hide_get r i e h ne
  | .val d :: r, i + 1, e, h, ne => by simp [hide] at h; simpa using hide_get r i e h ne
/-- a new run from here, with what is one's own out of sight -/
theorem Rel.inner {K : PySem.W.Frag} {fr : Fr} {F H : Hp} {σ : St} {ρ : Env} {n : Int} (r : Rel K W fr F H σ ρ n) : Rel K W (fr.at F H) F H σ (hide ρ) n := by
  obtain ⟨ad, s⟩ := r.slots
  refine ⟨r.core.at, ad, by rw [hide_length]; exact s.len, fun j e q => ?_, fun j e q => ?_, fun j k e e' q q' => ?_⟩
  · exact s.val j e (hide_get ρ j _ q (by simp)).1
  · obtain ⟨d, hd⟩ := (hide_get ρ j _ q (by simp)).2
    cases hd
  · obtain ⟨d, hd⟩ := (hide_get ρ j _ q (by simp)).2
    cases hd
/-- D is no one's own -/
def NoOwn (p : Addr) (σ : St) (ρ : Env) : Prop := ∀ (i : Nat) (d : D), ρ[i]? = some (Sl.own d) → σ[i]? ≠ some (some (.ref p))
theorem Rel.noOwn {K : PySem.W.Frag} {fr : Fr} {F H : Hp} {σ : St} {ρ : Env} {n : Int} (r : Rel K W fr F H σ ρ n) {p : Addr} (hp : H p = none) : NoOwn p σ ρ := fun i d e q => by
  obtain ⟨ad, s⟩ := r.slots
  obtain ⟨h1, _, _, _, h5, _⟩ := s.own i d e
  obtain ⟨o, ho⟩ := h5.there
  rw [h1] at q
  cases q
  rw [hp] at ho; cases ho
theorem Rel.other {K : PySem.W.Frag} {fr : Fr} {F H : Hp} {σ : St} {ρ : Env} {n : Int} (r : Rel K W fr F H σ ρ n) {p : Addr} {o : HO} (h1 : F p = none) (h2 : fr.H0 p = none) (h3 : fr.dr ≠ some p) (h4 : NoOwn p σ ρ) : Rel K W fr F (upd H p o) σ ρ n := by
  obtain ⟨ad, s⟩ := r.slots
  have c := r.core
  refine ⟨?_, ad, s.len, s.val, fun j e q => ?_, s.inj⟩
  · exact {
      sub := fun a u q => by rw [upd_ne (ne_of_none q h1)]; exact c.sub _ _ q
      base := fun a u q q2 q3 => by rw [upd_ne (ne_of_none q h2)]; exact c.base a u q q2 q3
      f0 := c.f0
      new := c.new
      there := fun a u q => by rw [upd_ne (ne_of_none q h2)]; exact c.there a u q
      draw := fun a e => by
        obtain ⟨q1, q2, q3⟩ := c.draw a e
        have ne : a ≠ p := fun z => h3 (by rw [← z]; exact e)
        exact ⟨q1, by rw [upd_ne ne]; exact q2, q3⟩ }
  · obtain ⟨q1, q2, q3, q4, q5, q6⟩ := s.own j e q
    have ne : ad j ≠ p := fun z => h4 j e q (by rw [q1, z])
    exact ⟨q1, q2, q3, q4, q5.mono (Sub.refl _) (fun u z => by rw [upd_ne ne]; exact z), q6⟩
theorem Rel.addF {K : PySem.W.Frag} {fr : Fr} {F H : Hp} {σ : St} {ρ : Env} {n : Int} (r : Rel K W fr F H σ ρ n) {p : Addr} {o : HO} (h0 : H p = some o) (h1 : F p = none) (h2 : fr.H0 p = none) (h3 : fr.dr ≠ some p) (h4 : NoOwn p σ ρ) : Sub F (upd F p o) ∧ Rel K W fr (upd F p o) H σ ρ n := by
  obtain ⟨ad, s⟩ := r.slots
  have c := r.core
  have up : Sub F (upd F p o) := fun a u q => by rw [upd_ne (ne_of_none q h1)]; exact q
  refine ⟨up, ?_, ad, s.len, fun j e q => ?_, fun j e q => ?_, s.inj⟩
  · exact {
      sub := fun a u q => by
        by_cases e : a = p
        · rw [e, upd_same] at q; rw [e, h0]; exact q
        · rw [upd_ne e] at q; exact c.sub _ _ q
      base := c.base
      f0 := c.f0.trans up
      new := fun a u q q2 => by rw [upd_ne (ne_of_none q h2)]; exact c.new a u q q2
      there := c.there
      draw := fun a e => by
        obtain ⟨q1, q2, q3⟩ := c.draw a e
        have ne : a ≠ p := fun z => h3 (by rw [← z]; exact e)
        exact ⟨by rw [upd_ne ne]; exact q1, q2, up.sqL q3⟩ }
  · obtain ⟨v, q1, q2⟩ := s.val j e q
    exact ⟨v, q1, q2.mono up fun _ z => z⟩
  · obtain ⟨q1, q2, q3, q4, q5, q6⟩ := s.own j e q
    have ne : ad j ≠ p := fun z => h4 j e q (by rw [q1, z])
    exact ⟨q1, by rw [upd_ne ne]; exact q2, q3, q4, q5.mono up fun _ z => z, q6⟩

def compD (body : D → M (Option D)) : List D → M (List D)
  | [] => M.pure []
  | d :: ds => M.bind (body d) fun y => M.bind (compD body ds) fun ys => M.pure (match y with | some z => z :: ys | none => ys)
def compB (vs : List Nat) (g : GX) (t : TX) (f : EX) (ρ : Env) (d : D) : M (Option D) := M.bind (M.opt (g d (hide (wipeD ρ vs)))) fun ρ1 => M.bind (t ρ1) fun b => match b with
  | true => M.bind (f ρ1) fun y => M.pure (some y)
  | false => M.pure none
def eComp (vs : List Nat) (g : GX) (it : IX) (t : TX) (f : EX) : EX := fun ρ => M.bind (it ρ) fun ds => M.bind (compD (compB vs g t f ρ) ds) fun ys => M.opt (mkLst ys)
def tYesD : TX := fun _ => M.pure true
theorem ts_nil : PTs X [] (tT X.K W tYesD) := by
  refine ⟨fun pins s σ H Q I ⟨fr, F, ρ, n, b, n', R, e, k⟩ => ?_⟩
  obtain ⟨h1, h2⟩ := M.pure_ok e
  subst h1 h2
  exact pts_nil.run pins s σ H Q I (k F H R (Sub.refl _))
theorem ts_one {c : Expr} {t : TX} (h : PDT X W c t) : PTs X [c] (tT X.K W t) := pts_one h
theorem d_tLc {K : PySem.W.Frag} {vs : List Nat} {tg : TG} {g : GX} {is : List Nat} {it : IX} {t : TX} {f : EX} (hg : GOk K W tg g is) (hv : ∀ i ∈ is, i ∈ vs) {σ : St} {H : Hp} {Q : VK} (h : tD K W (eComp vs g it t f) σ H Q) : tLc (tI K W it) tg (tT K W t) (tD K W f) vs σ H Q := by
  obtain ⟨fr, F, ρ, n, d, n', R, e, k⟩ := h
  obtain ⟨ds, n1, e1, ha⟩ := M.bind_ok e
  obtain ⟨zs, n2, e2, hb⟩ := M.bind_ok ha
  obtain ⟨e3, e4⟩ := M.opt_ok hb
  obtain ⟨e5, hz⟩ := mkLst_ok e3
  clear ha hb e3
  subst e4 e5
  refine ⟨fr, F, ρ, n, ds, n1, R, e1, fun F1 H1 J R1 s1 ok => fun p hp => ?_⟩
  refine ⟨fun i m H' => m = ds.length - i ∧ i ≤ ds.length ∧ ∃ F' n'' acc dacc ys, Rel K W fr F' H' σ ρ n'' ∧ Sub F1 F' ∧ F' p = none ∧ H' p = some (.lst acc) ∧ Dens K W fr.dr F' acc dacc ∧ compD (compB vs g t f ρ) (ds.drop i) n'' = some (.ok ys, n') ∧ zs = dacc ++ ys,
    ⟨ds.length, by simp, Nat.zero_le _, F1, n1, [], [], zs, ?_, Sub.refl _, R1.core.noF hp, upd_same, .nil, e2, rfl⟩, ?_⟩
  · exact R1.other (R1.core.noF hp) (R1.core.noH0 hp) (R1.core.ndr hp) (R1.noOwn hp)
  have hH0 := R1.core.noH0 hp
  have hdr := R1.core.ndr hp
  have hno := R1.noOwn hp
  rintro i m H2 ⟨rfl, hi, F2, m2, acc, dacc, ys, R2, s2, f2, a2, d2, c2, q2⟩
  have RI : Rel K W (fr.at F2 H2) F2 H2 (wipe σ vs) (hide (wipeD ρ vs)) m2 := (R2.wipe vs).inner
  by_cases hlt : i < ds.length
  · refine .inr ?_
    rw [List.drop_eq_getElem_cons hlt] at c2
    obtain ⟨y, n3, c3, hc⟩ := M.bind_ok c2
    obtain ⟨yr, n4, c4, hd⟩ := M.bind_ok hc
    obtain ⟨c5, c6⟩ := M.pure_ok hd
    clear hc hd
    subst c6
    obtain ⟨ρ1, n5, b1, hb1⟩ := M.bind_ok c3
    obtain ⟨b2, b3⟩ := M.opt_ok b1
    obtain ⟨b, n6, b4, hb2⟩ := M.bind_ok hb1
    clear hb1 b1 c3
    subst b3
    obtain ⟨g1, g2⟩ := (ok (fr.at F2 H2) F2 H2 _ _ _ i rfl RI s2).1 ds[i] (by simp [hlt])
    refine ⟨g1, fun H' => ∃ F' n'' acc dacc ys, Rel K W fr F' H' σ ρ n'' ∧ Sub F1 F' ∧ F' p = none ∧ H' p = some (.lst acc) ∧ Dens K W fr.dr F' acc dacc ∧ compD (compB vs g t f ρ) (ds.drop (i + 1)) n'' = some (.ok ys, _) ∧ zs = dacc ++ ys, fun H' q => ⟨_, by omega, rfl, hlt, q⟩, fun x H' yl => ?_⟩
    obtain ⟨F3, R3, s3, d3⟩ := g2 x H' yl
    refine hg (fr.at F2 H2) F3 H' _ _ ρ1 _ x _ _ R3 d3 b2 fun σ3 R4 w4 => ⟨(w4 vs hv).trans (wipe_wipe σ vs), ?_⟩
    refine ⟨fr.at F2 H2, F3, ρ1, _, b, n6, R4, b4, fun F5 H5 R5 s5 => ?_⟩
    cases b with
    | true =>
      rw [if_pos rfl]
      obtain ⟨z, n7, b5, hb3⟩ := M.bind_ok hb2
      obtain ⟨b6, b7⟩ := M.pure_ok hb3
      clear hb2 hb3
      subst b6 b7
      refine ⟨fr.at F2 H2, F5, ρ1, n6, z, _, R5, b5, fun F6 H6 v R6 s6 d6 => ?_⟩
      have a6 : H6 p = some (.lst acc) := R6.core.base p _ a2 hdr fun z => z
      have f6 : F6 p = none := R6.core.new p _ a2 f2
      have s26 : Sub F2 F6 := R6.core.f0
      refine ⟨acc, a6, ?_, F6, _, acc ++ [v], dacc ++ [z], yr, (R2.back R6.core).other f6 hH0 hdr hno, s2.trans s26, f6, upd_same, (d2.mono s26 fun _ z => z).append (.cons d6 .nil), c4, ?_⟩
      · have l1 := d2.length
        have l2 : zs.length = dacc.length + ys.length := by rw [q2, List.length_append]
        have l3 : ys.length = yr.length + 1 := by rw [← c5]; simp
        omega
      · rw [q2, ← c5]; simp
    | false =>
      rw [if_neg Bool.false_ne_true]
      obtain ⟨b6, b7⟩ := M.pure_ok hb2
      clear hb2
      subst b6 b7
      have a6 : H5 p = some (.lst acc) := R5.core.base p _ a2 hdr fun z => z
      have f6 : F5 p = none := R5.core.new p _ a2 f2
      have s26 : Sub F2 F5 := R5.core.f0
      exact ⟨F5, _, acc, dacc, yr, R2.back R5.core, s2.trans s26, f6, a6, d2.mono s26 fun _ z => z, c4, by rw [q2, ← c5]⟩
  · have ei : i = ds.length := by omega
    refine .inl ⟨(ok (fr.at F2 H2) F2 H2 _ _ _ i rfl RI s2).2 ei, ?_⟩
    rw [ei, List.drop_length] at c2
    obtain ⟨a1, a3⟩ := M.pure_ok c2
    subst a1 a3
    obtain ⟨u1, R7⟩ := R2.addF a2 f2 hH0 hdr hno
    exact k _ H2 _ R7 ((s1.trans s2).trans u1) (.lst upd_same (by rw [q2, List.append_nil]; exact d2.mono u1 fun _ z => z))
/-- [elt for tg in iter if ..] -/
theorem d_comp {vs : List Nat} {elt tg iter : Expr} {ifs : List Expr} {scope : Scope} {own : List (Str × Nat)} {pos : Pos} {t : TG} {g : GX} {is : List Nat} {it : IX} {tt : TX} {f : EX} (hc : X.calm = true) (hN : X.N.Nodup) (hi : PDI X W tg iter it) (ok : BlkOk X.N X.env.scope scope own)
    (hg : ∀ (s : Shared) (H : Hp) (C : Addr) (cl : List (Str × Addr)) (fp : List Addr), PG (X.blk s H scope (compEnvC scope cl C X.env) fp) tg t) (hq : GOk X.K W t g is) (hv : ∀ i ∈ is, i ∈ vs)
    (ht : ∀ (s : Shared) (H : Hp) (C : Addr) (cl : List (Str × Addr)) (fp : List Addr), PTs (X.blk s H scope (compEnvC scope cl C X.env) fp) ifs (tT X.K W tt))
    (he : ∀ (s : Shared) (H : Hp) (C : Addr) (cl : List (Str × Addr)) (fp : List Addr), PE (X.blk s H scope (compEnvC scope cl C X.env) fp) elt (tD X.K W f)) (hs : ∀ x, foldedSetIterable iter X.env x = pure x := by intro _; rfl) (hvs : own.map (·.2) = vs := by rfl) :
    PD X W (.ListComp elt [⟨tg, iter, ifs, 0⟩] scope pos) (eComp vs g it tt f) := by
  subst hvs
  exact imp_E (pe_lc hc hN hi ok hg ht he hs) fun _ _ _ h => d_tLc hq hv h
/-- y = [elt for ..], one line -/
theorem S_setComp {vs : List Nat} {i : Nat} {y : Str} {py : Pos} {elt tg iter : Expr} {ifs : List Expr} {scope : Scope} {own : List (Str × Nat)} {pos spos : Pos} {t : TG} {g : GX} {is : List Nat} {it : IX} {tt : TX} {f : EX} (hc : X.calm = true) (hN : X.N.Nodup) (hy : X.N[i]? = some y) (hyl : X.env.scope.names.lookup y = some .local)
    (hsw : swapsWith (.ListComp elt [⟨tg, iter, ifs, 0⟩] scope pos) (some (.Name y py)) spos.line X.env = pure true) (hi : PDI X W tg iter it) (ok : BlkOk X.N X.env.scope scope own)
    (hg : ∀ (s : Shared) (H : Hp) (C : Addr) (cl : List (Str × Addr)) (fp : List Addr), PG (X.blk s H scope (compEnvC scope cl C X.env) fp) tg t) (hq : GOk X.K W t g is) (hv : ∀ i ∈ is, i ∈ vs)
    (ht : ∀ (s : Shared) (H : Hp) (C : Addr) (cl : List (Str × Addr)) (fp : List Addr), PTs (X.blk s H scope (compEnvC scope cl C X.env) fp) ifs (tT X.K W tt))
    (he : ∀ (s : Shared) (H : Hp) (C : Addr) (cl : List (Str × Addr)) (fp : List Addr), PE (X.blk s H scope (compEnvC scope cl C X.env) fp) elt (tD X.K W f)) (hs : ∀ x, foldedSetIterable iter X.env x = pure x := by intro _; rfl) (hvs : own.map (·.2) = vs := by rfl) :
    PDS X W (.Assign [.Name y py] (.ListComp elt [⟨tg, iter, ifs, 0⟩] scope pos) spos) (sAsg (gV i) (eComp vs g it tt f)) := by
  subst hvs
  refine imp_S (ps_setLc hc hN hy hyl hsw hi ok hg ht he hs) fun E σ H ⟨fr, F, ρ, n, o, n', R, e, k⟩ => ?_
  obtain ⟨x, n1, e1, ha⟩ := M.bind_ok e
  obtain ⟨ρ', n2, e2, h⟩ := M.bind_ok ha
  obtain ⟨h1, h2⟩ := M.pure_ok h
  obtain ⟨h3, h4⟩ := M.opt_ok e2
  clear ha h
  subst h4
  subst h1 h2
  refine d_tLc hq hv ⟨fr, F, ρ, n, x, _, R, e1, fun F1 H1 v R1 s1 d1 => ?_⟩
  cases h3
  exact k F1 H1 _ (R1.set d1) s1
end
end DL
end

section
set_option Elab.async false
set_option linter.all false
set_option autoImplicit false
set_option maxRecDepth 100000
namespace DL
open PySem PySem.Spec L2
open PyProof.Rows (envOfC)

/-! ### what a def promises -/
abbrev FX := List D → M D
/-- nothing is raised -/
def spD (K : PySem.W.Frag) (W : Wd) (f : FX) (m : Nat) : Sp := fun vs H Q _ => vs.length = m ∧ ∃ fr F n ds d n', Core K W fr F H n ∧ Dens K W fr.dr F vs ds ∧ f ds n = some (.ok d, n') ∧
  ∀ F' H' v, Core K W (fr.at F H) F' H' n' → Den K W fr.dr F' v d → Q v H'
/-- a body as a function: N names, P parameters -/
def runD (N P : Nat) (g : SX) : FX := fun ds => M.bind (g (ds.map Sl.val ++ List.replicate (N - P) Sl.no)) fun o => match o with
  | .ret d => M.pure d
  | .nx _ => M.pure .non
  | _ => M.opt none
theorem start_rel {K : PySem.W.Frag} {W : Wd} {fr : Fr} {F H : Hp} {n : Int} {N : List Str} {P : Nat} {vs : List V} {ds : List D} (c : Core K W fr F H n) (d : Dens K W fr.dr F vs ds) (hl : vs.length = P) :
    Rel K W (fr.at F H) F H (L2.start N vs) (ds.map Sl.val ++ List.replicate (N.length - P) Sl.no) n := by
  have key : ∀ (i : Nat) (e : Sl), (ds.map Sl.val ++ List.replicate (N.length - P) Sl.no)[i]? = some e → e ≠ .no → ∃ d, ds[i]? = some d ∧ e = .val d := fun i e q ne => by
    by_cases hi : i < ds.length
    · rw [List.getElem?_append_left (by simpa using hi), List.getElem?_map] at q
      cases z : ds[i]? with
      | none => rw [z] at q; cases q
      | some d' => rw [z] at q; cases q; exact ⟨d', rfl, rfl⟩
    · rw [List.getElem?_append_right (by simpa using hi)] at q
      have := List.mem_of_getElem? q
      rw [List.mem_replicate] at this
      exact absurd this.2 ne
  refine ⟨c.at, fun _ => 0, ?_, fun i e q => ?_, fun i e q => ?_, fun i j e e' q q' => ?_⟩
  · unfold L2.start; simp [d.length, ← hl]
  · obtain ⟨d', h1, h2⟩ := key i _ q (by simp)
    cases h2
    obtain ⟨v, h3, h4⟩ := d.get h1
    refine ⟨v, ?_, h4⟩
    unfold L2.start
    have hi := (List.getElem?_eq_some_iff.mp h3).1
    rw [List.getElem?_append_left (by simpa using hi), List.getElem?_map, h3]; rfl
  · obtain ⟨d', h1, h2⟩ := key i _ q (by simp)
    cases h2
  · obtain ⟨d', h1, h2⟩ := key i _ q (by simp)
    cases h2
section
variable {P : Program} {w : World} {K : PySem.W.Frag} {mg : Str → Option Value} {base : Heap} {W : Wd}
theorem okD {x qual : Str} {st : Stmt} {f : Addr} {fd : FuncData} {N ps : List Str} {k : Nat} {g : SX} (F : Fun K x qual st f fd) (S : FnScope N ps (defScope st))
    (body : ∀ (cdv : Value) (A : Around) (outer : List PySem.Env) (s : Shared) (H : Hp) (E : XK), Room k (A.deeper (envOfC qual (defScope st) s.heap.objs.size f cdv)) → PSs (cxOf CX0 P w K mg base N qual (defScope st) f cdv A outer s H E).nox (defBody st) (tS K W g)) :
    FnOk P w K mg base CX0 (k + 1) f fd ps (spD K W (runD N.length ps.length g) ps.length) := by
  refine F.ok S (fun vs H Q E h => h.1) fun cdv A outer s H vs Q E hr h => ?_
  obtain ⟨hl, fr, F0, n, ds, d, n', c, dd, e, k⟩ := h
  refine ⟨_, body cdv A outer s H E hr, ?_⟩
  obtain ⟨o, n1, e1, h1⟩ := M.bind_ok e
  refine ⟨fr.at F0 H, F0, _, n, o, n1, start_rel c dd hl, e1, ?_⟩
  cases o with
  | ret d' =>
    obtain ⟨a1, a2⟩ := M.pure_ok h1
    subst a1 a2
    exact fun F' H' v c' s' d' => k F' H' v c' d'
  | nx ρ =>
    obtain ⟨a1, a2⟩ := M.pure_ok h1
    subst a1 a2
    exact fun F' H' σ' R' s' => k F' H' _ R'.core .non
  | bk ρ => cases (M.opt_ok h1).1
  | ct ρ => cases (M.opt_ok h1).1
end

/-! ### calls -/
section
variable {X : Cx} {W : Wd} {k : Nat} {f C : Addr} {fd : FuncData} {ps : List Str} {x m : Str} {p pos apos : Pos} {e o : Expr} {es : List Expr}
def eCall (fx : FX) (fs : EXs) : EX := fun ρ => M.bind (fs ρ) fx
theorem tCall_of {K : PySem.W.Frag} {fx : FX} {fs : EXs} {mm : Nat} {E : XK} (hm : ∀ ρ n ds n', fs ρ n = some (.ok ds, n') → ds.length = mm) {σ : St} {H : Hp} {Q : VK} (h : tD K W (eCall fx fs) σ H Q) : tCall (spD K W fx mm) [] E (tDs K W fs) σ H Q := by
  obtain ⟨fr, F, ρ, n, d, n', R, e, k⟩ := h
  obtain ⟨ds, n1, e1, h1⟩ := M.bind_ok e
  refine ⟨fr, F, ρ, n, ds, n1, R, e1, fun F1 H1 vs R1 s1 d1 => ?_⟩
  show spD K W fx mm (vs ++ []) H1 Q E
  rw [List.append_nil]
  exact ⟨by rw [d1.length]; exact hm _ _ _ _ e1, fr, F1, n1, ds, d, n', R1.core, d1, h1, fun F2 H2 v c2 d2 => k F2 H2 v (R1.back c2) (s1.trans c2.f0) d2⟩
theorem al_nil (ρ : Env) (n : Int) (ds : List D) (n' : Int) (h : eNil ρ n = some (.ok ds, n')) : ds.length = 0 := by
  obtain ⟨a, b⟩ := M.pure_ok h
  subst a; rfl
theorem al_cons {g : EX} {fs : EXs} {mm : Nat} (hm : ∀ ρ n ds n', fs ρ n = some (.ok ds, n') → ds.length = mm) (ρ : Env) (n : Int) (ds : List D) (n' : Int) (h : eCons g fs ρ n = some (.ok ds, n')) : ds.length = mm + 1 := by
  obtain ⟨d, n1, e1, h1⟩ := M.bind_ok h
  obtain ⟨r, n2, e2, h2⟩ := M.bind_ok h1
  obtain ⟨a, b⟩ := M.pure_ok h2
  subst a
  simp [hm _ _ _ _ e2]
theorem d_call {fx : FX} {fs : EXs} {mm : Nat} (F : FnOk X.prog X.w X.K X.mg X.base CX0 k f fd ps (spD X.K W fx mm)) (hr : Room k X.A) (hg : Gl X x) (hm : X.mg x = some (.ref f)) (hk : PySem.W.keepIn X.K (.ref f) = true) (hb : Binds X.K fd ps [])
    (ha : PDs X W (e :: es) fs) (hl : ∀ ρ n ds n', fs ρ n = some (.ok ds, n') → ds.length = mm) (hdb : (x == ("__debug__" : Str)) = false := by decide) (he : starEach (e :: es) X.env = (false, eval e X.env) :: starEach es X.env := by rfl) (hpl : (backTo pos (starEach es X.env)).any (·.1) = false := by rfl) :
    PD X W (.Call (.Name x p) (e :: es) [] pos) (eCall fx fs) := imp_E (pe_call (E := E0) F hr hg hm hk hb .nil pass0 ha hdb he hpl) fun _ _ _ h => tCall_of hl h
theorem d_call0 {fx : FX} (F : FnOk X.prog X.w X.K X.mg X.base CX0 k f fd ps (spD X.K W fx 0)) (hr : Room k X.A) (hg : Gl X x) (hm : X.mg x = some (.ref f)) (hk : PySem.W.keepIn X.K (.ref f) = true) (hb : Binds X.K fd ps []) (hdb : (x == ("__debug__" : Str)) = false := by decide) :
    PD X W (.Call (.Name x p) [] [] pos) (eCall fx eNil) := imp_E (pe_call0 (E := E0) F hr hg hm hk hb .nil pass0 hdb) fun σ H Q h => by
  obtain ⟨fr, F, ρ, n, d, n', R, e, k⟩ := h
  obtain ⟨ds, n1, e1, h1⟩ := M.bind_ok e
  obtain ⟨a, b⟩ := M.pure_ok e1
  subst a b
  exact ⟨rfl, fr, F, _, [], d, n', R.core, .nil, h1, fun F2 H2 v c2 d2 => k F2 H2 v (R.back c2) c2.f0 d2⟩

/-! ### built-ins called by name -/
theorem d_B {r : List V → Hp → VK → Prop} {op : List D → Option D} {id : String} {fs : EXs} (hc : CallR X (.builtin id) r) (hd : CallD X.K W r op) (hg : Gl X x) (hm : X.mg x = none) (hv : bootBuiltins x = some (.builtin id)) (ha : PDs X W (e :: es) fs) (hn : x ≠ "__name__" := by decide) (hdb : (x == ("__debug__" : Str)) = false := by decide)
    (he : starEach (e :: es) X.env = (false, eval e X.env) :: starEach es X.env := by rfl) (hpl : (backTo pos (starEach es X.env)).any (·.1) = false := by rfl) : PD X W (.Call (.Name x p) (e :: es) [] pos) (eB op fs) := imp_E (pe_callB hc hg hm hv ha hn hdb he hpl) fun _ _ _ h => tCB_of hd h
theorem d_Ty {r : List V → Hp → VK → Prop} {op : List D → Option D} {T : String} {fs : EXs} (hc : CallR X (.type T) r) (hd : CallD X.K W r op) (hg : Gl X x) (hm : X.mg x = none) (hv : bootBuiltins x = some (.type T)) (ha : PDs X W (e :: es) fs) (hn : x ≠ "__name__" := by decide) (hdb : (x == ("__debug__" : Str)) = false := by decide)
    (he : starEach (e :: es) X.env = (false, eval e X.env) :: starEach es X.env := by rfl) (hpl : (backTo pos (starEach es X.env)).any (·.1) = false := by rfl) : PD X W (.Call (.Name x p) (e :: es) [] pos) (eB op fs) := imp_E (pe_callTy hc hg hm hv ha hn hdb he hpl) fun _ _ _ h => tCB_of hd h
end
end DL
end

section
set_option Elab.async false
set_option linter.all false
set_option autoImplicit false
set_option maxRecDepth 100000
set_option maxHeartbeats 4000000
namespace DL
open PySem PySem.Spec PyProof.Rows L2
/-! ### tuple * int, any count -/
theorem tuple_mulS (l : Addr) (items : Array Value) (n : Nat) (dd : Option Addr) (sl : Array (Option Value)) (x : Int) (u : Tok) (c0 : (decide (x < -(2 ^ 63)) || decide (x ≥ 2 ^ 63)) = false) (c1 : (items.isEmpty || x == 1) = true) :
    Meets (Builtin.«tuple.__mul__» ⟨[.ref l, .int x u], []⟩) (fun _ R s => s.heap.get? l = some { cls := .type "tuple", dict := dd, data := .seq items n, slots := sl } ∧
      R (.ok (.ret (Value.ref l))) s) :=
  .of_wp fun prog w A R s h => by
    obtain ⟨hp, g, d, tk, os⟩ := s
    obtain ⟨hl, h⟩ := h
    have f1 := AutoSeq1.idx_int
    wp_walk using wpAny_loadPart' hl
    repeat (first
      | (refine wpAny_ite_false (decide_eq_false (by rw [c0]; exact Bool.false_ne_true)) ?_; wp_walk using wpAny_loadPart' hl)
      | (refine wpAny_ite_true (decide_eq_true c1) ?_; wp_walk using wpAny_loadPart' hl))
    exact ⟨_, rfl, h⟩
theorem tuple_mulN (l : Addr) (items : Array Value) (n : Nat) (dd : Option Addr) (sl : Array (Option Value)) (x : Int) (u : Tok) (c0 : (decide (x < -(2 ^ 63)) || decide (x ≥ 2 ^ 63)) = false) (c1 : (items.isEmpty || x == 1) = false) (c2 : (decide (x ≤ 0) || items.isEmpty) = true) :
    Meets (Builtin.«tuple.__mul__» ⟨[.ref l, .int x u], []⟩) (fun _ R s => s.heap.get? l = some { cls := .type "tuple", dict := dd, data := .seq items n, slots := sl } ∧
      R (.ok (.ret (Value.ref s.heap.objs.size))) { s with heap := s.heap.push { cls := Value.type "tuple", data := Data.seq #[] }, toks := s.toks }) :=
  .of_wp fun prog w A R s h => by
    obtain ⟨hp, g, d, tk, os⟩ := s
    obtain ⟨hl, h⟩ := h
    have f1 := AutoSeq1.idx_int
    wp_walk using wpAny_loadPart' hl
    repeat (first
      | (refine wpAny_ite_false (decide_eq_false (by rw [c0]; exact Bool.false_ne_true)) ?_; wp_walk using wpAny_loadPart' hl)
      | (refine wpAny_ite_false (decide_eq_false (by rw [c1]; exact Bool.false_ne_true)) ?_; wp_walk using wpAny_loadPart' hl)
      | (refine wpAny_ite_true (decide_eq_true c2) ?_; wp_walk using wpAny_loadPart' hl))
    exact ⟨_, rfl, h⟩
def rRepA (K : PySem.W.Frag) : R2 := fun x y H Q => ∃ l k xs, x = .ref l ∧ y = .int k ∧ SqT K H l xs ∧ -1000000 ≤ k ∧ k ≤ 1000000 ∧ ((xs.length : Nat) : Int) * k ≤ 1000000 ∧ (xs = [] ∨ k = 1 → Q (.ref l) H) ∧ (xs ≠ [] → k ≠ 1 → ∀ p, H p = none → Q (.ref p) (upd H p (.tup (List.replicate k.toNat xs).flatten)))
section
variable {X : Cx}
theorem op_repA : OpR X (binaryOp .Mult) (rRepA X.K) := by
  intro pins s σ H x y v u Q I rx ry h
  obtain ⟨l, k, xs, rfl, rfl, hT, h1, h2, hz, q1, q2⟩ := h
  cases rx
  obtain ⟨t, rfl⟩ := ry
  obtain ⟨its, r, ⟨⟨cls, dd, data, sl⟩, ho, hc, n, hd⟩, hs⟩ := I.tuple hT
  simp only at hc hd
  subst hc hd
  have hle : its.length = xs.length := r.length.symm
  have hsz0 : its.toArray.size = xs.length := by rw [List.size_toArray, hle]
  have c0 : (decide (k < -(2 ^ 63)) || decide (k ≥ 2 ^ 63)) = false := by
    rw [decide_eq_false (by omega), decide_eq_false (by omega)] <;> rfl
  by_cases hone : xs = [] ∨ k = 1
  · have c1 : (its.toArray.isEmpty || k == 1) = true := by
      rcases hone with e | e
      · subst e
        have : its = [] := List.eq_nil_of_length_eq_zero (by rw [hle]; rfl)
        subst this; rfl
      · subst e; simp
    refine wpAny_binaryOp_repeat_ref (T := "tuple") (U := "int") (by decide) ⟨_, ho, rfl⟩ (fun s' => typeIs_int s' k t) noFill_tuple_mul F.fills_int_mul F.slot_int_rmul repeat_tuple F.slot_int_index.lookup
      (call_meets F.slot_int_rmul (typeIs_int s k t) F.entry_int_rmul (F.args_int_rmul_2 _ _) (int_rmul_tuple k t l its.toArray n dd sl)
        ⟨ho, rfl, ⟨_, ho, rfl⟩, call_meets F.slot_tuple_mul ⟨_, ho, rfl⟩ F.entry_tuple_mul (F.args_tuple_mul_2 _ _) (tuple_mulS l its.toArray n dd sl k t c0 c1) ⟨ho, ?_⟩⟩)
    exact ⟨.ref l, H, I, rfl, q1 hone⟩
  · have hne : xs ≠ [] := fun e => hone (.inl e)
    have hk1 : k ≠ 1 := fun e => hone (.inr e)
    have hn : its ≠ [] := fun e => hne (by
      rw [e] at hle
      exact List.eq_nil_of_length_eq_zero hle.symm)
    have hi : its.toArray.isEmpty = false := by
      cases its with
      | nil => exact absurd rfl hn
      | cons a b => rfl
    have c1 : (its.toArray.isEmpty || k == 1) = false := by
      rw [hi, Bool.false_or]
      exact beq_eq_false_iff_ne.mpr (by omega)
    by_cases hk : k ≤ 0
    · have c2 : (decide (k ≤ 0) || its.toArray.isEmpty) = true := by
        rw [decide_eq_true hk]; rfl
      refine wpAny_binaryOp_repeat_ref (T := "tuple") (U := "int") (by decide) ⟨_, ho, rfl⟩ (fun s' => typeIs_int s' k t) noFill_tuple_mul F.fills_int_mul F.slot_int_rmul repeat_tuple F.slot_int_index.lookup
        (call_meets F.slot_int_rmul (typeIs_int s k t) F.entry_int_rmul (F.args_int_rmul_2 _ _) (int_rmul_tuple k t l its.toArray n dd sl)
          ⟨ho, rfl, ⟨_, ho, rfl⟩, call_meets F.slot_tuple_mul ⟨_, ho, rfl⟩ F.entry_tuple_mul (F.args_tuple_mul_2 _ _) (tuple_mulN l its.toArray n dd sl k t c0 c1 c2) ⟨ho, ?_⟩⟩)
      have e0 : (List.replicate k.toNat xs).flatten = [] := by
        have : k.toNat = 0 := by omega
        rw [this]; rfl
      have q2' := q2 hne hk1
      rw [e0] at q2'
      refine ⟨.ref s.heap.objs.size, _, I.laid (t' := s.toks) (o := .tup []) (fun b ob q => Heap.get?_push_of_some _ q) (Nat.le_refl _) ?_, rfl, q2' _ (I.hok.fresh (Nat.le_refl _))⟩
      exact ⟨Nat.zero_le _, [], .nil, IsTup.new _ _⟩
    · have c2 : (decide (k ≤ 0) || its.toArray.isEmpty) = false := by
        rw [hi, Bool.or_false]
        exact decide_eq_false (by omega)
      have hm : ((its.toArray.size : Nat) : Int) * k ≤ 1000000 := by rw [hsz0]; exact hz
      have c4 : Builtin.Tuple.tupleTooMany (((its.toArray.size : Nat) : Int) * k) = false := by
        unfold Builtin.Tuple.tupleTooMany
        rw [sizeLine_eq]
        exact decide_eq_false (by omega)
      have flen : k.toNat * xs.length ≤ 1000000 := by
        have : ((k.toNat * xs.length : Nat) : Int) ≤ 1000000 := by
          rw [Int.natCast_mul, Int.toNat_of_nonneg (by omega), Int.mul_comm]; exact hz
        omega
      refine wpAny_binaryOp_repeat_ref (T := "tuple") (U := "int") (by decide) ⟨_, ho, rfl⟩ (fun s' => typeIs_int s' k t) noFill_tuple_mul F.fills_int_mul F.slot_int_rmul repeat_tuple F.slot_int_index.lookup
        (call_meets F.slot_int_rmul (typeIs_int s k t) F.entry_int_rmul (F.args_int_rmul_2 _ _) (int_rmul_tuple k t l its.toArray n dd sl)
          ⟨ho, rfl, ⟨_, ho, rfl⟩, call_meets F.slot_tuple_mul ⟨_, ho, rfl⟩ F.entry_tuple_mul (F.args_tuple_mul_2 _ _) (tuple_mulW l its.toArray n dd sl k t c0 c1 c2 (by omega) c4 (by rw [size_rep, List.size_toArray, PyProof.Rows.lm_len_rep_flat, hle, sizeLine_eq]; omega)) ⟨ho, ?_⟩⟩)
      rw [size_rep]
      refine ⟨.ref s.heap.objs.size, _, I.laid (t' := s.toks) (o := .tup (List.replicate k.toNat xs).flatten) (fun b ob q => Heap.get?_push_of_some _ q) (Nat.le_refl _) ?_, rfl, q2 hne hk1 _ (I.hok.fresh (Nat.le_refl _))⟩
      exact ⟨by rw [PyProof.Rows.lm_len_rep_flat, sizeLine_eq]; omega, _, r.rep k.toNat, IsTup.new _ _⟩
end
end DL
end

section
set_option Elab.async false
set_option linter.all false
set_option autoImplicit false
set_option maxRecDepth 100000
set_option maxHeartbeats 1000000
namespace DL
open PySem PySem.Spec L2
open PyProof.Rows (envOfC)
section
variable {X : Cx} {W : Wd}
/-! ### products -/
def dMul : D → D → Option D
  | .int a, .int b => if small64 a || small64 b then some (.int (a * b)) else none
  | .tup xs, .int k => if decide (-1000000 ≤ k) && decide (k ≤ 1000000) && decide (((xs.length : Nat) : Int) * k ≤ 1000000) then some (.tup (List.replicate k.toNat xs).flatten) else none
  | _, _ => none
theorem d_mul {a b : Expr} {fa fb : EX} {pos : Pos} (ha : PD X W a fa) (hb : PD X W b fb) : PD X W (.BinOp a .Mult b pos) (e2 dMul fa fb) := d_op (op_mul.or op_repA) (by
  intro fr F H σ ρ n x y d v u Q R dx dy h k
  unfold dMul at h
  split at h
  · split at h
    · rename_i q
      rw [Bool.or_eq_true] at q
      cases dx; cases dy; cases h
      exact .inl ⟨_, _, rfl, rfl, q.imp small64_ok small64_ok, k F H _ R (Sub.refl _) (.int _)⟩
    · cases h
  · split at h
    · rename_i xs kk q
      simp only [Bool.and_eq_true, decide_eq_true_eq] at q
      cases dx with
      | tup h1 h2 =>
        cases dy; cases h
        refine .inr ⟨_, _, _, rfl, rfl, R.core.sub.sqT h1, q.1.1, q.1.2, by rw [h2.length]; exact q.2, fun e => ?_, fun e1 e2 => put_tup R (h2.rep _) k⟩
        have : (List.replicate kk.toNat xs).flatten = xs := by
          rcases e with e | e
          · rw [(dens_ne h2).mp e]; simp
          · subst e; simp
        rw [this] at k
        exact k F H _ R (Sub.refl _) (.tup h1 h2)
    · cases h
  · cases h) ha hb

/-! ### attributes, methods, instances -/
def dFld (c : Nat) (f : Str) : D → Option D
  | .obj c' ks vs => if c' = c then (ks.zip vs).lookup f else none
  | _ => none
theorem lookup_zip {K : PySem.W.Frag} {dr : Option Addr} {F : Hp} {f : Str} {d : D} : ∀ {ks : List Str} {vs : List V} {ds : List D}, ks.length = vs.length → Dens K W dr F vs ds → (ks.zip ds).lookup f = some d → ∃ v, (ks.zip vs).lookup f = some v ∧ Den K W dr F v d
  | [], _, _, _, _, e => by simp at e
  | k :: ks, [], _, l, _, _ => by simp at l
  | k :: ks, v :: vs, _, l, .cons h r, e => by
    rw [List.zip_cons_cons, List.lookup_cons] at e
    rw [List.zip_cons_cons, List.lookup_cons]
    split at e
    · cases e
      exact ⟨v, rfl, h⟩
    · exact lookup_zip (by simpa using l) r e
theorem lookup_zip_none {f : Str} : ∀ {ks : List Str} {vs : List V} {ds : List D}, ks.length = vs.length → vs.length = ds.length → (ks.zip ds).lookup f = none → (ks.zip vs).lookup f = none
  | [], _, _, _, _, _ => by simp
  | k :: ks, [], _, l, _, _ => by simp at l
  | k :: ks, v :: vs, [], _, l, _ => by simp at l
  | k :: ks, v :: vs, d :: ds, l, l', e => by
    rw [List.zip_cons_cons, List.lookup_cons] at e
    rw [List.zip_cons_cons, List.lookup_cons]
    split at e
    · cases e
    · exact lookup_zip_none (by simpa using l) (by simpa using l') e
theorem d_fld {e : Expr} {f : Str} {fx : EX} {c : Nat} {pos : Pos} (cl : Cls X.K (W.cl c)) (na : NoAttr X.K (W.cl c) f) (he : PD X W e fx) (hb : attributeBase e f X.env (eval e X.env) = eval e X.env := by rfl) : PD X W (.Attribute e f pos) (e1 (dFld c f) fx) := imp_E (pe_fld he hb) fun σ H Q ⟨fr, F, ρ, n, d, n', R, e, k⟩ => by
  obtain ⟨x, n1, h1, h⟩ := M.bind_ok e
  obtain ⟨h2, h3⟩ := M.opt_ok h
  subst h3
  refine ⟨fr, F, ρ, n, x, _, R, h1, fun F1 H1 v R1 s1 d1 => ?_⟩
  unfold dFld at h2
  split at h2
  · split at h2
    · rename_i c' ks vs q
      subst q
      cases d1 with
      | obj l hF hd =>
        obtain ⟨u, e1, e2⟩ := lookup_zip l hd h2
        exact ⟨_, _, _, _, u, rfl, R1.core.sub _ _ hF, cl, na, e1, k F1 H1 u R1 s1 e2⟩
    · cases h2
  · cases h2
/-- o.m(..): o, then the others -/
def isObj (c : Nat) (m : Str) : D → Bool
  | .obj c' ks vs => decide (c' = c) && ((ks.zip vs).lookup m).isNone
  | _ => false
def eMeth (c : Nat) (m : Str) (fx : FX) (fo : EX) (fs : EXs) : EX := fun ρ => M.bind (fo ρ) fun o => if isObj c m o then M.bind (fs ρ) fun ds => fx (o :: ds) else M.opt none
theorem tMeth_of {K : PySem.W.Frag} {c : Nat} {m : Str} {fx : FX} {fo : EX} {fs : EXs} {mm : Nat} {E : XK} (hm : ∀ ρ n ds n', fs ρ n = some (.ok ds, n') → ds.length = mm) {σ : St} {H : Hp} {Q : VK} (h : tD K W (eMeth c m fx fo fs) σ H Q) :
    tMeth (W.cl c) m (spD K W fx (mm + 1)) [] E (tD K W fo) (tDs K W fs) σ H Q := by
  obtain ⟨fr, F, ρ, n, d, n', R, e, k⟩ := h
  obtain ⟨o, n1, e1, h1⟩ := M.bind_ok e
  refine ⟨fr, F, ρ, n, o, n1, R, e1, fun F1 H1 v R1 s1 d1 => ?_⟩
  split at h1
  · rename_i q
    unfold isObj at q
    split at q
    · rw [Bool.and_eq_true, decide_eq_true_eq] at q
      obtain ⟨q1, q2⟩ := q
      subst q1
      cases d1 with
      | obj l hF hd =>
        obtain ⟨ds, n2, e2, h2⟩ := M.bind_ok h1
        refine ⟨_, _, _, rfl, R1.core.sub _ _ hF, lookup_zip_none l hd.length (Option.isNone_iff_eq_none.mp q2), ?_⟩
        refine ⟨fr, F1, ρ, n1, ds, n2, R1, e2, fun F2 H2 vs R2 s2 d2 => ?_⟩
        show spD K W fx (mm + 1) (_ :: (vs ++ [])) H2 Q E
        rw [List.append_nil]
        refine ⟨by rw [List.length_cons, d2.length, hm _ _ _ _ e2], fr, F2, n2, _, d, n', R2.core, .cons (.obj l (s2 _ _ hF) (hd.mono s2 fun _ z => z)) d2, h2, fun F3 H3 u c3 d3 => k F3 H3 u (R2.back c3) ((s1.trans s2).trans c3.f0) d3⟩
    · cases q
  · cases (M.opt_ok h1).1
theorem d_meth {k : Nat} {c : Nat} {f : Addr} {fd : FuncData} {ps : List Str} {m : Str} {pos apos : Pos} {e o : Expr} {es : List Expr} {fx : FX} {fo : EX} {fs : EXs} {mm : Nat} {pl : Sem Bool} (ho : PD X W o fo) (cl : Cls X.K (W.cl c)) (hm : Meth X.K (W.cl c) m f)
    (F : FnOk X.prog X.w X.K X.mg X.base CX0 k f fd ps (spD X.K W fx (mm + 1))) (hr : Room k X.A) (hb : Binds X.K fd ps []) (ha : PDs X W (e :: es) fs) (hl : ∀ ρ n ds n', fs ρ n = some (.ok ds, n') → ds.length = mm)
    (hst : starEach (e :: es) X.env = (false, eval e X.env) :: starEach es X.env := by rfl) (hpl : (backTo pos (starEach es X.env)).any (·.1) = false := by rfl)
    (ht : eval (.Call (.Attribute o m apos) (e :: es) [] pos) X.env = (do
      let ov ← eval o X.env
      standAt apos.atName
      let (f, first) ← holding [ov] (getMethod ov m pl)
      callWith pos f first (backTo pos (starEach (e :: es) X.env)) (backToKw pos (keywordEach [] X.env))) := by rfl) :
    PD X W (.Call (.Attribute o m apos) (e :: es) [] pos) (eMeth c m fx fo fs) := imp_E (pe_meth (E := E0) ho cl hm F hr hb .nil pass0 ha hst hpl ht) fun _ _ _ h => tMeth_of hl h
theorem d_meth0 {k : Nat} {c : Nat} {f : Addr} {fd : FuncData} {ps : List Str} {m : Str} {pos apos : Pos} {o : Expr} {fx : FX} {fo : EX} {pl : Sem Bool} (ho : PD X W o fo) (cl : Cls X.K (W.cl c)) (hm : Meth X.K (W.cl c) m f)
    (F : FnOk X.prog X.w X.K X.mg X.base CX0 k f fd ps (spD X.K W fx 1)) (hr : Room k X.A) (hb : Binds X.K fd ps [])
    (ht : eval (.Call (.Attribute o m apos) [] [] pos) X.env = (do
      let ov ← eval o X.env
      standAt apos.atName
      let (f, first) ← holding [ov] (getMethod ov m pl)
      callWith pos f first (backTo pos (starEach [] X.env)) (backToKw pos (keywordEach [] X.env))) := by rfl) :
    PD X W (.Call (.Attribute o m apos) [] [] pos) (eMeth c m fx fo eNil) := imp_E (pe_meth0 (E := E0) ho cl hm F hr hb .nil pass0 ht) fun σ H Q h => by
  have := tMeth_of (E := E0) al_nil h
  obtain ⟨fr, F, ρ, n, o, n1, R, e1, k⟩ := this
  refine ⟨fr, F, ρ, n, o, n1, R, e1, fun F1 H1 v R1 s1 d1 => ?_⟩
  obtain ⟨a, dx, fs, q1, q2, q3, q4⟩ := k F1 H1 v R1 s1 d1
  obtain ⟨fr2, F2, ρ2, n2, ds, n3, R2, e2, k2⟩ := q4
  obtain ⟨b1, b2⟩ := M.pure_ok e2
  subst b1 b2
  exact ⟨a, dx, fs, q1, q2, q3, k2 F2 H1 [] R2 (Sub.refl _) .nil⟩

/-! ### a new instance -/
/-- the promise of an __init__ that raises nothing: f: the arguments to the instance -/
def spI (K : PySem.W.Frag) (W : Wd) (f : FX) (c m : Nat) : Sp := fun vs H Q _ => vs.length = m + 1 ∧ ∃ fr F n p dx us ds ks fs n', vs = .ref p :: us ∧ H p = some (.ins (W.cl c) dx []) ∧ F p = none ∧ fr.dr ≠ some p ∧ Core K W fr F H n ∧ Dens K W fr.dr F us ds ∧ f ds n = some (.ok (.obj c ks fs), n') ∧
  ∀ F' H', Core K W ⟨fr.dr, fr.sa, H, F, fun a => a = p⟩ F' H' n' → F' p = none → MDen K W fr.dr F' H' p (.obj c ks fs) → Q .non H'
def runI (N P c : Nat) (g : SX) : FX := fun ds => M.bind (g (Sl.own (.obj c [] []) :: ds.map Sl.val ++ List.replicate (N - P) Sl.no)) fun o => match o with
  | .nx (Sl.own d :: _) => M.pure d
  | _ => M.opt none
end
section
variable {P : Program} {w : World} {K : PySem.W.Frag} {mg : Str → Option Value} {base : Heap} {W : Wd}
theorem okI {x qual : Str} {st : Stmt} {f : Addr} {fd : FuncData} {N ps : List Str} {k m cc : Nat} {g : SX} (F : Fun K x qual st f fd) (S : FnScope N ps (defScope st)) (hps : ps.length = m + 1)
    (body : ∀ (cdv : Value) (A : Around) (outer : List PySem.Env) (s : Shared) (H : Hp) (E : XK), Room k (A.deeper (envOfC qual (defScope st) s.heap.objs.size f cdv)) → PSs (cxOf CX0 P w K mg base N qual (defScope st) f cdv A outer s H E).nox (defBody st) (tS K W g)) :
    FnOk P w K mg base CX0 (k + 1) f fd ps (spI K W (runI N.length (m + 1) cc g) cc m) := by
  refine F.ok S (fun vs H Q E h => by rw [hps]; exact h.1) fun cdv A outer s H vs Q E hr h => ?_
  obtain ⟨hl, fr, F0, n, p, dx, us, ds, ks, fs, n', rfl, hp, hF, hdr, c, dd, e, k⟩ := h
  refine ⟨_, body cdv A outer s H E hr, ?_⟩
  obtain ⟨o, n1, e1, h1⟩ := M.bind_ok e
  have c' : Core K W ⟨fr.dr, fr.sa, H, F0, fun a => a = p⟩ F0 H n := ⟨c.sub, fun _ _ h _ _ => h, Sub.refl _, fun _ _ _ h => h, fun _ o h => ⟨o, h⟩, c.draw⟩
  have hus : us.length = m := by simpa using hl
  have key : ∀ (i : Nat) (e : Sl), (Sl.own (.obj cc [] []) :: ds.map Sl.val ++ List.replicate (N.length - (m + 1)) Sl.no)[i]? = some e → e ≠ .no → (i = 0 ∧ e = .own (.obj cc [] [])) ∨ ∃ d j, i = j + 1 ∧ ds[j]? = some d ∧ e = .val d := fun i e q ne => by
    cases i with
    | zero => left; simp at q; exact ⟨rfl, q.symm⟩
    | succ j =>
      right
      rw [List.cons_append, List.getElem?_cons_succ] at q
      by_cases hi : j < ds.length
      · rw [List.getElem?_append_left (by simpa using hi), List.getElem?_map] at q
        cases z : ds[j]? with
        | none => rw [z] at q; cases q
        | some d' => rw [z] at q; cases q; exact ⟨d', j, rfl, z, rfl⟩
      · rw [List.getElem?_append_right (by simpa using hi)] at q
        have := List.mem_of_getElem? q
        rw [List.mem_replicate] at this
        exact absurd this.2 ne
  have R : Rel K W ⟨fr.dr, fr.sa, H, F0, fun a => a = p⟩ F0 H (L2.start N (.ref p :: us)) (Sl.own (.obj cc [] []) :: ds.map Sl.val ++ List.replicate (N.length - (m + 1)) Sl.no) n := by
    refine ⟨c', fun _ => p, ?_, fun i e q => ?_, fun i e q => ?_, fun i j e e' q q' _ => ?_⟩
    · unfold L2.start; simp [← dd.length, hus]
    · rcases key i _ q (by simp) with ⟨_, h⟩ | ⟨d', j, rfl, h1, h2⟩
      · cases h
      · cases h2
        obtain ⟨v, h3, h4⟩ := dd.get h1
        refine ⟨v, ?_, h4⟩
        unfold L2.start
        have hi := (List.getElem?_eq_some_iff.mp h3).1
        rw [List.map_cons, List.cons_append, List.getElem?_cons_succ, List.getElem?_append_left (by simpa using hi), List.getElem?_map, h3]; rfl
    · rcases key i _ q (by simp) with ⟨rfl, h⟩ | ⟨d', j, rfl, h1, h2⟩
      · cases h
        exact ⟨rfl, hF, hdr, .inr rfl, ⟨dx, [], rfl, hp, .nil⟩, .inl ⟨rfl, rfl⟩⟩
      · cases h2
    · rcases key i _ q (by simp) with ⟨rfl, h⟩ | ⟨d', j', rfl, h1, h2⟩
      · rcases key j _ q' (by simp) with ⟨rfl, h⟩ | ⟨d', j', rfl, h1, h2⟩
        · rfl
        · cases h2
      · cases h2
  refine ⟨_, F0, _, n, o, n1, R, e1, ?_⟩
  split at h1
  · obtain ⟨a1, a2⟩ := M.pure_ok h1
    subst a1 a2
    intro F' H' σ' R' s'
    obtain ⟨ad, sl⟩ := R'.slots
    obtain ⟨q1, q2, q3, q4, q5, q7⟩ := sl.own 0 _ rfl
    have q6 : ad 0 = p := by
      rcases q7 with q7 | q7
      · exact q7.2
      · cases q7.1
    rw [q6] at q2 q5
    exact k F' H' R'.core q2 q5
  · cases (M.opt_ok h1).1
end
end DL
end

section
set_option Elab.async false
set_option linter.all false
set_option autoImplicit false
set_option maxRecDepth 100000
set_option maxHeartbeats 1000000
namespace DL
open PySem PySem.Spec L2
section
variable {K : PySem.W.Frag} {W : Wd} {fr : Fr} {F F' H H2 H' : Hp} {σ : St} {ρ : Env} {n n' : Int} {x : Addr}
theorem Rel.backM (r : Rel K W fr F H σ ρ n) (hx : H x = none) (h2 : ∀ a o, H a = some o → H2 a = some o) (d : Core K W ⟨fr.dr, fr.sa, H2, F, fun a => a = x⟩ F' H' n') : Rel K W fr F' H' σ ρ n' := by
  have c := r.core
  have old : ∀ a o, H a = some o → fr.dr ≠ some a → H' a = some o := fun a o q z => d.base a o (h2 _ _ q) z fun e => by
    have e : a = x := e
    rw [e, hx] at q; cases q
  refine r.keep ⟨d.sub, fun a o q1 q2 q3 => old a o (c.base a o q1 q2 q3) q2, c.f0.trans d.f0, fun a o q1 q2 => ?_, fun a o q => ?_, d.draw⟩ d.f0 old fun a o q z => d.new a o (h2 _ _ q) z
  · obtain ⟨o', q⟩ := c.there a o q1
    exact d.new a o' (h2 _ _ q) (c.new a o q1 q2)
  · obtain ⟨o', q'⟩ := c.there a o q
    exact d.there a o' (h2 _ _ q')
end
section
variable {X : Cx} {W : Wd} {k : Nat} {f : Addr} {fd : FuncData} {ps : List Str} {x m : Str} {p pos apos : Pos} {e o : Expr} {es : List Expr}
theorem mden_den {K : PySem.W.Frag} {dr : Option Addr} {F H : Hp} {a : Addr} {d : D} (m : MDen K W dr F H a d) (hF : F a = none) : ∃ o, H a = some o ∧ Den K W dr (upd F a o) (.ref a) d := by
  have up : ∀ o, Sub F (upd F a o) := fun o b u q => by rw [upd_ne (ne_of_none q hF)]; exact q
  cases d with
  | lst ds => obtain ⟨vs, e, q⟩ := m; exact ⟨_, e, .lst upd_same (q.mono (up _) fun _ z => z)⟩
  | dic ks ds => obtain ⟨vs, l, e, q⟩ := m; exact ⟨_, e, .dic l (.inl upd_same) (q.mono (up _) fun _ z => z)⟩
  | dit ks ds => obtain ⟨vs, l, e, q⟩ := m; exact ⟨_, e, .dit l (.inl upd_same) (q.mono (up _) fun _ z => z)⟩
  | obj c ks ds => obtain ⟨dx, vs, l, e, q⟩ := m; exact ⟨_, e, .obj l upd_same (q.mono (up _) fun _ z => z)⟩
  | non => exact m.elim
  | bl _ => exact m.elim
  | int _ => exact m.elim
  | str _ => exact m.elim
  | tup _ => exact m.elim
  | drw => exact m.elim
  | scr => exact m.elim
/-- C(..) -/
def eMake (c : Nat) (fx : FX) (fs : EXs) : EX := fun ρ => M.bind (fs ρ) fun ds => M.bind (fx ds) fun d => match d with
  | .obj c' ks vs => if c' = c then M.pure (.obj c' ks vs) else M.opt none
  | _ => M.opt none
theorem tMake_of {K : PySem.W.Frag} {c mm : Nat} {fx : FX} {fs : EXs} {E : XK} (hm : ∀ ρ n ds n', fs ρ n = some (.ok ds, n') → ds.length = mm) {σ : St} {H : Hp} {Q : VK} (h : tD K W (eMake c fx fs) σ H Q) : tMake (W.cl c) (spI K W fx c mm) [] E (tDs K W fs) σ H Q := by
  obtain ⟨fr, F, ρ, n, d, n', R, e, k⟩ := h
  obtain ⟨ds, n1, e1, h1⟩ := M.bind_ok e
  obtain ⟨d', n2, e2, h2⟩ := M.bind_ok h1
  refine ⟨fr, F, ρ, n, ds, n1, R, e1, fun F1 H1 vs R1 s1 d1 => ?_⟩
  split at h2
  · split at h2
    · obtain ⟨b1, b2⟩ := M.pure_ok h2
      rename_i c' ks fs' q
      subst q
      subst b1 b2
      intro x dx hx hdx hne
      have h2 : ∀ a o, H1 a = some o → (upd (upd H1 dx (.own x)) x (.ins (W.cl c') dx [])) a = some o := fun a o q => by
        rw [upd_ne (ne_of_none q hx), upd_ne (ne_of_none q hdx)]; exact q
      have c1 := R1.core
      show spI K W fx c' mm (.ref x :: (vs ++ [])) _ _ E
      rw [List.append_nil]
      have F1x := c1.noF hx
      refine ⟨by rw [List.length_cons, d1.length, hm _ _ _ _ e1], fr, F1, n1, x, dx, vs, ds, ks, fs', _, rfl, upd_same, F1x, c1.ndr hx, ⟨fun a o q => h2 _ _ (c1.sub _ _ q), fun a o q q2 q3 => h2 _ _ (c1.base a o q q2 q3), c1.f0, c1.new, fun a o q => ?_, fun a q => ?_⟩, d1, e2, fun F' H' c2 q1 q2 => ⟨rfl, ?_⟩⟩
      · obtain ⟨o', z⟩ := c1.there a o q
        exact ⟨o', h2 _ _ z⟩
      · obtain ⟨a1, a2, a3⟩ := c1.draw a q
        exact ⟨a1, h2 _ _ a2, a3⟩
      · have R2 := R1.backM hx h2 c2
        obtain ⟨o, z1, z2⟩ := mden_den q2 q1
        obtain ⟨u1, R3⟩ := R2.addF z1 q1 (c1.noH0 hx) (c1.ndr hx) (R1.noOwn hx)
        exact k _ H' _ R3 ((s1.trans c2.f0).trans u1) z2
    · cases (M.opt_ok h2).1
  · cases (M.opt_ok h2).1
theorem d_make {c mm : Nat} {fx : FX} {fs : EXs} (Mm : Mk X.K (W.cl c) f) (F : FnOk X.prog X.w X.K X.mg X.base CX0 k f fd ps (spI X.K W fx c mm)) (hr : Room (k + 1) X.A) (hg : Gl X x) (hm : X.mg x = some (.ref (W.cl c))) (hb : Binds X.K fd ps [])
    (ha : PDs X W (e :: es) fs) (hl : ∀ ρ n ds n', fs ρ n = some (.ok ds, n') → ds.length = mm) (hdb : (x == ("__debug__" : Str)) = false := by decide) (he : starEach (e :: es) X.env = (false, eval e X.env) :: starEach es X.env := by rfl) (hpl : (backTo pos (starEach es X.env)).any (·.1) = false := by rfl) :
    PD X W (.Call (.Name x p) (e :: es) [] pos) (eMake c fx fs) := imp_E (pe_make (E := E0) Mm F hr hg hm hb .nil pass0 ha hdb he hpl) fun _ _ _ h => tMake_of hl h

/-! ### one's own: fields, lists, dicts -/
def putKs (f : Str) : List Str → List Str
  | [] => [f]
  | g :: r => if g = f then g :: r else g :: putKs f r
def putVs {α : Type} (f : Str) (d : α) : List Str → List α → List α
  | [], _ => [d]
  | g :: r, v :: vs => if g = f then d :: vs else v :: putVs f d r vs
  | _ :: _, [] => []
theorem putKs_length {α : Type} (f : Str) (d : α) : ∀ {ks : List Str} {vs : List α}, ks.length = vs.length → (putKs f ks).length = (putVs f d ks vs).length
  | [], [], _ => rfl
  | [], _ :: _, l => by simp at l
  | g :: r, [], l => by simp at l
  | g :: r, v :: vs, l => by
    unfold putKs putVs
    split
    · exact l
    · simp [putKs_length f d (ks := r) (vs := vs) (by simpa using l)]
theorem putF_zip (f : Str) (v : V) : ∀ {ks : List Str} {vs : List V}, ks.length = vs.length → putF f v (ks.zip vs) = (putKs f ks).zip (putVs f v ks vs)
  | [], [], _ => rfl
  | [], _ :: _, l => by simp at l
  | g :: r, [], l => by simp at l
  | g :: r, u :: vs, l => by
    rw [List.zip_cons_cons]
    unfold putF putKs putVs
    split
    · rw [List.zip_cons_cons]
    · rw [List.zip_cons_cons, putF_zip f v (by simpa using l)]
theorem Dens.putVs {K : PySem.W.Frag} {dr : Option Addr} {F : Hp} (f : Str) {v : V} {d : D} (h : Den K W dr F v d) : ∀ {ks : List Str} {vs : List V} {ds : List D}, ks.length = vs.length → Dens K W dr F vs ds → Dens K W dr F (putVs f v ks vs) (putVs f d ks ds)
  | [], [], _, _, .nil => .cons h .nil
  | [], _ :: _, _, l, _ => by simp at l
  | g :: r, [], _, l, _ => by simp at l
  | g :: r, u :: vs, _, l, .cons q s => by
    unfold DL.putVs
    split
    · exact .cons h s
    · exact .cons q (Dens.putVs f h (by simpa using l) s)
def own? (ρ : Env) (i : Nat) : Option D := match ρ[i]? with
  | some (Sl.own d) => some d
  | _ => none
theorem own_some {ρ : Env} {i : Nat} {d : D} (h : own? ρ i = some d) : ρ[i]? = some (Sl.own d) := by
  unfold own? at h
  split at h
  · cases h; assumption
  · cases h
/-- what is one's own is changed by a value -/
def sUp (i : Nat) (up : D → D → Option D) (fx : EX) : SX := fun ρ => M.bind (fx ρ) fun d => M.bind (M.opt ((own? ρ i).bind (up d))) fun o => M.pure (.nx (ρ.set i (.own o)))
theorem sUp_ok {i : Nat} {up : D → D → Option D} {fx : EX} {ρ : Env} {n n' : Int} {o : Out} (h : sUp i up fx ρ n = some (.ok o, n')) : ∃ d a b, fx ρ n = some (.ok d, n') ∧ ρ[i]? = some (Sl.own a) ∧ up d a = some b ∧ o = .nx (ρ.set i (.own b)) := by
  obtain ⟨d, n1, e1, h1⟩ := M.bind_ok h
  obtain ⟨b, n2, e2, h2⟩ := M.bind_ok h1
  obtain ⟨e3, e4⟩ := M.opt_ok e2
  obtain ⟨e5, e6⟩ := M.pure_ok h2
  subst e4
  cases q : own? ρ i with
  | none => rw [q] at e3; cases e3
  | some a =>
    rw [q] at e3
    exact ⟨d, a, b, by rw [e6]; exact e1, own_some q, e3, e5.symm⟩
/-- self.f = e, self one's own -/
def uFld (c : Nat) (f : Str) (d : D) : D → Option D
  | .obj c' ks vs => if c' = c ∧ ks.length < 1000 ∧ ks.length = vs.length then some (.obj c' (putKs f ks) (putVs f d ks vs)) else none
  | _ => none
theorem S_fld {i c : Nat} {o : Expr} {f : Str} {fx : EX} {value : Expr} {pos pos' : Pos} (cl : Cls X.K (W.cl c)) (na : NoAttr X.K (W.cl c) f) (ho : PE X o (tVar i)) (hv : PD X W value fx) (hs : swapsWith value (some (.Attribute o f pos')) pos.line X.env = pure false := by rfl) : PDS X W (.Assign [.Attribute o f pos'] value pos) (sUp i (uFld c f) fx) := imp_S (ps_fld ho hv hs) fun E σ H ⟨fr, F, ρ, n, o, n', R, e, k⟩ => by
  obtain ⟨d, a, b, e1, hi, e3, rfl⟩ := sUp_ok e
  refine ⟨fr, F, ρ, n, d, n', R, e1, fun F1 H1 v R1 s1 d1 => ?_⟩
  unfold uFld at e3
  split at e3
  · split at e3
    · rename_i c' ks vs q
      obtain ⟨q1, q2, q3⟩ := q
      subst q1
      cases e3
      obtain ⟨ad, s⟩ := R1.slots
      obtain ⟨a1, a2, a3, a4, ⟨dx, us, l, a5, a6⟩, a7⟩ := s.own i _ hi
      refine ⟨_, a1, ad i, _, dx, _, rfl, a5, cl, na, ?_, ?_⟩
      · rw [List.length_zip, l, Nat.min_self]
        rw [← l]; exact q2
      · have m' : MDen X.K W fr.dr F1 (upd H1 (ad i) (.ins (W.cl c') dx (putF f v (ks.zip us)))) (ad i) (.obj c' (putKs f ks) (putVs f d ks vs)) :=
          ⟨dx, _, putKs_length f v l, by rw [upd_same, putF_zip f v l], a6.putVs f d1 l⟩
        exact k F1 _ _ (R1.change s hi m' rfl) s1
    · cases e3
  · cases e3
/-- reading a field of one's own -/
def eOwnFld (i c : Nat) (f : Str) : EX := fun ρ => M.opt ((own? ρ i).bind (dFld c f))
theorem d_ownFld {i c : Nat} {o : Expr} {f : Str} {pos : Pos} (cl : Cls X.K (W.cl c)) (na : NoAttr X.K (W.cl c) f) (ho : PE X o (tVar i)) (hb : attributeBase o f X.env (eval o X.env) = eval o X.env := by rfl) : PD X W (.Attribute o f pos) (eOwnFld i c f) := imp_E (pe_fld ho hb) fun σ H Q ⟨fr, F, ρ, n, d, n', R, e, k⟩ => by
  obtain ⟨h1, h2⟩ := M.opt_ok e
  subst h2
  cases q : own? ρ i with
  | none => rw [q] at h1; cases h1
  | some a =>
  rw [q] at h1
  have hi := own_some q
  have h1 : dFld c f a = some d := h1
  clear q
  unfold dFld at h1
  split at h1
  · split at h1
    · rename_i c' ks vs q
      subst q
      obtain ⟨ad, s⟩ := R.slots
      obtain ⟨a1, a2, a3, a4, ⟨dx, us, l, a5, a6⟩, a7⟩ := s.own i _ hi
      obtain ⟨u, e1, e2⟩ := lookup_zip l a6 h1
      exact ⟨_, a1, ad i, _, dx, _, u, rfl, a5, cl, na, e1, k F H u R (Sub.refl _) e2⟩
    · cases h1
  · cases h1
/-- x = [] -/
def sOwn (i : Nat) (d : D) : SX := fun ρ => M.pure (.nx (ρ.set i (.own d)))
theorem S_nil_ {i : Nat} {y : Str} {px p2 pos : Pos} (hN : X.N.Nodup) (hi : X.N[i]? = some y) (hx : Loc X.env.scope y) (hs : swapsWith (.List [] p2) (some (.Name y px)) pos.line X.env = pure false := by rfl) (hf : X.fn y = true ∨ X.env.scope.names.lookup y = some .local := by first | exact .inl rfl | exact .inr rfl | assumption) : PDS X W (.Assign [.Name y px] (.List [] p2) pos) (sOwn i (.lst [])) := imp_S (ps_set hN hi hx (pe_lst pa_nil) hs hf) fun E σ H ⟨fr, F, ρ, n, o, n', R, e, k⟩ => by
  obtain ⟨b1, b2⟩ := M.pure_ok e
  subst b1 b2
  exact ⟨Nat.zero_le _, fun p hp => k F _ _ (R.setOwn hp rfl ⟨[], upd_same, .nil⟩) (Sub.refl _)⟩
theorem S_dic_ {i : Nat} {y : Str} {px p2 pos : Pos} (hN : X.N.Nodup) (hi : X.N[i]? = some y) (hx : Loc X.env.scope y) (hs : swapsWith (.Dict [] [] p2) (some (.Name y px)) pos.line X.env = pure false := by rfl) (hf : X.fn y = true ∨ X.env.scope.names.lookup y = some .local := by first | exact .inl rfl | exact .inr rfl | assumption) : PDS X W (.Assign [.Name y px] (.Dict [] [] p2) pos) (sOwn i (.dic [] [])) := imp_S (ps_set hN hi hx pe_dnewK hs hf) fun E σ H ⟨fr, F, ρ, n, o, n', R, e, k⟩ => by
  obtain ⟨b1, b2⟩ := M.pure_ok e
  subst b1 b2
  exact fun p hp => k F _ _ (R.setOwn hp rfl ⟨[], rfl, upd_same, .nil⟩) (Sub.refl _)
theorem S_dit_ {i : Nat} {y : Str} {px p2 pos : Pos} (hN : X.N.Nodup) (hi : X.N[i]? = some y) (hx : Loc X.env.scope y) (hs : swapsWith (.Dict [] [] p2) (some (.Name y px)) pos.line X.env = pure false := by rfl) (hf : X.fn y = true ∨ X.env.scope.names.lookup y = some .local := by first | exact .inl rfl | exact .inr rfl | assumption) : PDS X W (.Assign [.Name y px] (.Dict [] [] p2) pos) (sOwn i (.dit [] [])) := imp_S (ps_set hN hi hx pe_dnewT hs hf) fun E σ H ⟨fr, F, ρ, n, o, n', R, e, k⟩ => by
  obtain ⟨b1, b2⟩ := M.pure_ok e
  subst b1 b2
  exact fun p hp => k F _ _ (R.setOwn hp rfl ⟨[], rfl, upd_same, .nil⟩) (Sub.refl _)
/-- x.append(e) -/
def uApp (d : D) : D → Option D
  | .lst ds => if ds.length < sizeLine then some (.lst (ds ++ [d])) else none
  | _ => none
theorem S_app {i : Nat} {o e : Expr} {fx : EX} {apos cpos pos : Pos} (he : PD X W e fx) (hp : PE X (.Call (.Attribute o "append" apos) [e] [] cpos) (tBM X.K "list" rAppend (tVar i) (tCons (tD X.K W fx) tNil))) (hs : swapsWith (.Call (.Attribute o "append" apos) [e] [] cpos) none pos.line X.env = pure false := by rfl) : PDS X W (.Expr (.Call (.Attribute o "append" apos) [e] [] cpos) pos) (sUp i uApp fx) := imp_S (ps_expr hp hs) fun E σ H ⟨fr, F, ρ, n, o, n', R, e, k⟩ => by
  obtain ⟨d, a, b, e1, hi, e3, rfl⟩ := sUp_ok e
  unfold uApp at e3
  split at e3
  · split at e3
    · rename_i ds q
      cases e3
      obtain ⟨ad0, s0⟩ := R.slots
      obtain ⟨z1, z2, z3, z4, ⟨zs, z5, z6⟩, z7⟩ := s0.own i _ hi
      refine ⟨_, z1, .inl ⟨rfl, _, SqL.of z5⟩, fr, F, ρ, n, d, _, R, e1, fun F1 H1 v R1 s1 d1 => ?_⟩
      obtain ⟨ad, s⟩ := R1.slots
      obtain ⟨a1, a2, a3, a4, ⟨us, a5, a6⟩, a7⟩ := s.own i _ hi
      have ea : ad i = ad0 i := by rw [a1] at z1; injection z1 with z1; injection z1 with z1; injection z1
      refine ⟨ad i, us, v, by rw [ea], rfl, a5, by rw [a6.length]; exact q, ?_⟩
      exact k F1 _ _ (R1.change s hi ⟨us ++ [v], upd_same, a6.append (.cons d1 .nil)⟩ rfl) s1
    · cases e3
  · cases e3
/-- from here on it is not changed any more -/
def frzE (i : Nat) (ρ : Env) : Option Env := (own? ρ i).bind fun d => if isO d then none else some (ρ.set i (.val d))
def sFrz (i : Nat) : SX := fun ρ => M.bind (M.opt (frzE i ρ)) fun ρ' => M.pure (.nx ρ')
theorem S_frz {i : Nat} {st : List Stmt} {g : SX} (h : PDSs X W st g) : PDSs X W st (sSeq (sFrz i) g) := imp_Ss h fun E σ H ⟨fr, F, ρ, n, o, n', R, e, k⟩ => by
  obtain ⟨o1, n1, e1, h1⟩ := M.bind_ok e
  obtain ⟨ρ1, n2, e2, h2⟩ := M.bind_ok e1
  obtain ⟨e3, e4⟩ := M.opt_ok e2
  obtain ⟨e5, e6⟩ := M.pure_ok h2
  subst e5 e4
  subst e6
  unfold frzE at e3
  cases q : own? ρ i with
  | none => rw [q] at e3; cases e3
  | some d =>
    rw [q] at e3
    have hi := own_some q
    have e3 : (if isO d then none else some (ρ.set i (.val d))) = some ρ1 := e3
    split at e3
    · cases e3
    · rename_i hd
      cases e3
      obtain ⟨ad, s⟩ := R.slots
      have hx : fr.H0 (ad i) = none := by
        obtain ⟨a1, a2, a3, a4, a5, a6⟩ := s.own i _ hi
        rcases a6 with a6 | a6
        · exact absurd a6.1 hd
        · exact a6.2
      obtain ⟨F', s', R'⟩ := R.freeze s hi hx
      exact ⟨fr, F', _, _, o, n', R', h1, k.mono s'⟩
end
end DL
end

section
set_option Elab.async false
set_option linter.all false
set_option autoImplicit false
set_option maxRecDepth 100000
set_option maxHeartbeats 1000000
namespace DL
open PySem PySem.Spec L2
open PyProof.Rows (envOfC)
section
variable {X : Cx} {W : Wd} {x : Str} {p pos : Pos} {e : Expr} {es : List Expr}

/-! ### built-ins -/
def dInts : List D → Option (List Int)
  | [] => some []
  | .int i :: r => match dInts r with | some ns => some (i :: ns) | none => none
  | _ => none
theorem ints_of {K : PySem.W.Frag} {dr : Option Addr} {F : Hp} : ∀ {vs : List V} {ds : List D} {ns : List Int}, Dens K W dr F vs ds → dInts ds = some ns → vs = ns.map V.int
  | _, _, _, .nil, e => by unfold dInts at e; cases e; rfl
  | _, _, _, .cons h r, e => by
    unfold dInts at e
    split at e
    · rename_i q; cases q
    · rename_i q
      split at e
      · cases q; cases e; cases h
        rw [ints_of r ‹_›]; rfl
      · cases e
    · cases e
def dBls : List D → Option (List Bool)
  | [] => some []
  | .bl i :: r => match dBls r with | some ns => some (i :: ns) | none => none
  | _ => none
theorem bls_of {K : PySem.W.Frag} {dr : Option Addr} {F : Hp} : ∀ {vs : List V} {ds : List D} {ns : List Bool}, Dens K W dr F vs ds → dBls ds = some ns → vs = ns.map V.bl
  | _, _, _, .nil, e => by unfold dBls at e; cases e; rfl
  | _, _, _, .cons h r, e => by
    unfold dBls at e
    split at e
    · rename_i q; cases q
    · rename_i q
      split at e
      · cases q; cases e; cases h
        rw [bls_of r ‹_›]; rfl
      · cases e
    · cases e
def dSum : List D → Option D
  | [.lst ds] => match dInts ds with | some ns => some (.int ns.sum) | none => none
  | _ => none
def dAny : List D → Option D
  | [.lst ds] => match dBls ds with | some ns => some (.bl (ns.any id)) | none => none
  | _ => none
def dAll : List D → Option D
  | [.lst ds] => match dBls ds with | some ns => some (.bl (ns.all id)) | none => none
  | _ => none
theorem q_sum {K : PySem.W.Frag} : CallD K W (rSum K) dSum := by
  intro fr F H σ ρ n xs d vs Q R dx h k
  unfold dSum at h
  split at h
  · split at h
    · cases h
      cases dx with
      | cons h1 h2 =>
        cases h2
        cases h1 with
        | lst h3 h4 =>
          have := ints_of h4 ‹_›
          subst this
          exact ⟨_, _, rfl, SqL.of (R.core.sub _ _ h3), k F H _ R (Sub.refl _) (.int _)⟩
    · cases h
  · cases h
theorem q_any {K : PySem.W.Frag} : CallD K W (rAny K) dAny := by
  intro fr F H σ ρ n xs d vs Q R dx h k
  unfold dAny at h
  split at h
  · split at h
    · cases h
      cases dx with
      | cons h1 h2 =>
        cases h2
        cases h1 with
        | lst h3 h4 =>
          have := bls_of h4 ‹_›
          subst this
          exact ⟨_, _, rfl, SqL.of (R.core.sub _ _ h3), k F H _ R (Sub.refl _) (.bl _)⟩
    · cases h
  · cases h
theorem q_all {K : PySem.W.Frag} : CallD K W (rAll K) dAll := by
  intro fr F H σ ρ n xs d vs Q R dx h k
  unfold dAll at h
  split at h
  · split at h
    · cases h
      cases dx with
      | cons h1 h2 =>
        cases h2
        cases h1 with
        | lst h3 h4 =>
          have := bls_of h4 ‹_›
          subst this
          exact ⟨_, _, rfl, SqL.of (R.core.sub _ _ h3), k F H _ R (Sub.refl _) (.bl _)⟩
    · cases h
  · cases h
def dAbs : List D → Option D
  | [.int i] => some (.int (if i < 0 then -i else i))
  | _ => none
theorem q_abs {K : PySem.W.Frag} : CallD K W (fun xs H Q => ∃ i, xs = [.int i] ∧ Q (.int (if i < 0 then -i else i)) H) dAbs := by
  intro fr F H σ ρ n xs d vs Q R dx h k
  unfold dAbs at h
  split at h
  · cases h
    cases dx with
    | cons h1 h2 => cases h2; cases h1; exact ⟨_, rfl, k F H _ R (Sub.refl _) (.int _)⟩
  · cases h
def dMin2 : List D → Option D
  | [.int i, .int j] => some (.int (if j < i then j else i))
  | _ => none
def dMax2 : List D → Option D
  | [.int i, .int j] => some (.int (if j > i then j else i))
  | _ => none
theorem q_min2 {K : PySem.W.Frag} : CallD K W (fun xs H Q => ∃ i j, xs = [.int i, .int j] ∧ Q (.int (if j < i then j else i)) H) dMin2 := by
  intro fr F H σ ρ n xs d vs Q R dx h k
  unfold dMin2 at h
  split at h
  · cases h
    cases dx with
    | cons h1 h2 => cases h2 with
      | cons h2 h3 => cases h3; cases h1; cases h2; exact ⟨_, _, rfl, k F H _ R (Sub.refl _) (.int _)⟩
  · cases h
theorem q_max2 {K : PySem.W.Frag} : CallD K W (fun xs H Q => ∃ i j, xs = [.int i, .int j] ∧ Q (.int (if j > i then j else i)) H) dMax2 := by
  intro fr F H σ ρ n xs d vs Q R dx h k
  unfold dMax2 at h
  split at h
  · cases h
    cases dx with
    | cons h1 h2 => cases h2 with
      | cons h2 h3 => cases h3; cases h1; cases h2; exact ⟨_, _, rfl, k F H _ R (Sub.refl _) (.int _)⟩
  · cases h
def dInt : List D → Option D
  | [.int i] => some (.int i)
  | [.bl b] => some (.int (if b then 1 else 0))
  | _ => none
theorem q_int {K : PySem.W.Frag} : CallD K W (fun xs H Q => (∃ i, xs = [.int i] ∧ Q (.int i) H) ∨ ∃ k, xs = [.bl k] ∧ Q (.int (if k then 1 else 0)) H) dInt := by
  intro fr F H σ ρ n xs d vs Q R dx h k
  unfold dInt at h
  split at h
  · cases h
    cases dx with
    | cons h1 h2 => cases h2; cases h1; exact .inl ⟨_, rfl, k F H _ R (Sub.refl _) (.int _)⟩
  · cases h
    cases dx with
    | cons h1 h2 => cases h2; cases h1; exact .inr ⟨_, rfl, k F H _ R (Sub.refl _) (.int _)⟩
  · cases h
def dTupOf : List D → Option D
  | [.lst ds] => some (.tup ds)
  | [.tup ds] => some (.tup ds)
  | _ => none
theorem q_tupOf {K : PySem.W.Frag} : CallD K W (fun xs H Q => ∃ p ys, xs = [.ref p] ∧ ((SqL K H p ys ∧ ∀ l, H l = none → Q (.ref l) (upd H l (.tup ys))) ∨ (SqT K H p ys ∧ Q (.ref p) H))) dTupOf := by
  intro fr F H σ ρ n xs d vs Q R dx h k
  unfold dTupOf at h
  split at h
  · cases h
    cases dx with
    | cons h1 h2 =>
      cases h2
      cases h1 with
      | lst h3 h4 => exact ⟨_, _, rfl, .inl ⟨SqL.of (R.core.sub _ _ h3), put_tup R h4 k⟩⟩
  · cases h
    cases dx with
    | cons h1 h2 =>
      cases h2
      cases h1 with
      | tup h3 h4 => exact ⟨_, _, rfl, .inr ⟨R.core.sub.sqT h3, k F H _ R (Sub.refl _) (.tup h3 h4)⟩⟩
  · cases h
def dLstOf : List D → Option D
  | [.lst ds] => some (.lst ds)
  | [.tup ds] => some (.lst ds)
  | _ => none
theorem q_lstOf {K : PySem.W.Frag} : CallD K W (fun xs H Q => ∃ p ys, xs = [.ref p] ∧ (SqL K H p ys ∨ SqT K H p ys) ∧ ∀ l, H l = none → Q (.ref l) (upd H l (.lst ys))) dLstOf := by
  intro fr F H σ ρ n xs d vs Q R dx h k
  unfold dLstOf at h
  split at h
  · cases h
    cases dx with
    | cons h1 h2 =>
      cases h2
      cases h1 with
      | lst h3 h4 => exact ⟨_, _, rfl, .inl (SqL.of (R.core.sub _ _ h3)), put_lst R h4 k⟩
  · cases h
    cases dx with
    | cons h1 h2 =>
      cases h2
      cases h1 with
      | tup h3 h4 => exact ⟨_, _, rfl, .inr (R.core.sub.sqT h3), put_lst R h4 k⟩
  · cases h

/-! ### x op= e -/
def sAug (i : Nat) (op : D → D → Option D) (fx : EX) : SX := fun ρ => M.bind (eVar i ρ) fun a => M.bind (fx ρ) fun b => M.bind (M.opt (op a b)) fun d => M.pure (.nx (ρ.set i (.val d)))
theorem S_aug {i : Nat} {y : Str} {f : Int → Int → Int} {fx : EX} {op : Operator} {pos' pos : Pos} (hN : X.N.Nodup) (hi : X.N[i]? = some y) (hx : Loc X.env.scope y) (he : PD X W e fx) (ho : PIp X op (ipI f)) (hf : X.fn y = true ∨ X.env.scope.names.lookup y = some .local := by first | exact .inl rfl | exact .inr rfl | assumption) :
    PDS X W (.AugAssign (.Name y pos') op e pos) (sAug i (dI (fun _ _ => true) fun a b => .int (f a b)) fx) := imp_S (ps_aug hN hi hx he ho hf) fun E σ H ⟨fr, F, ρ, n, o, n', R, e, k⟩ => by
  obtain ⟨a, n1, e1, h1⟩ := M.bind_ok e
  obtain ⟨b, n2, e2, h2⟩ := M.bind_ok h1
  obtain ⟨d, n3, e3, h3⟩ := M.bind_ok h2
  obtain ⟨e4, e5⟩ := M.opt_ok e3
  obtain ⟨e6, e7⟩ := M.pure_ok h3
  obtain ⟨e8, e9⟩ := eVar_some e1
  clear e h1 h2 h3 e3
  subst e9 e6
  subst e7
  subst e5
  obtain ⟨ad, s⟩ := R.slots
  obtain ⟨v, q1, q2⟩ := s.val i a e8
  refine ⟨v, q1, fr, F, ρ, _, b, _, R, e2, fun F1 H1 u R1 s1 d1 => ?_⟩
  unfold dI at e4
  split at e4
  · simp only [if_true] at e4
    cases e4; cases q2; cases d1
    exact ⟨_, _, rfl, rfl, k F1 H1 _ (R1.set (.int _)) s1⟩
  · cases e4

/-! ### the draws -/
/-- the law's script, by its place in the draw -/
def eDrw0 (fx : EX) : EX := fun ρ => M.bind (fx ρ) fun d => match d with
  | .drw => M.pure .scr
  | _ => M.opt none
def eDrw1 (fx : EX) : EX := fun ρ => M.bind (fx ρ) fun d => match d with
  | .drw => fun n => some (.ok (.int n), n)
  | _ => M.opt none
theorem d_drw0 {a : Expr} {fa : EX} {p2 pos : Pos} {jj : Nat} (ha : PD X W a fa) : PD X W (.Subscript a (.Constant (.int 0) jj p2) pos) (eDrw0 fa) := imp_E (pe_ix ix_list ha pe_int (fun _ _ => rfl)) fun σ H Q ⟨fr, F, ρ, n, d, n', R, e, k⟩ => by
  obtain ⟨x, n1, e1, h1⟩ := M.bind_ok e
  refine ⟨fr, F, ρ, n, x, n1, R, e1, fun F1 H1 v R1 s1 d1 => ?_⟩
  split at h1
  · obtain ⟨b1, b2⟩ := M.pure_ok h1
    subst b1 b2
    cases d1 with
    | drw q =>
      obtain ⟨q1, q2, q3⟩ := R1.core.draw _ q
      exact ⟨_, _, 0, .ref fr.sa, rfl, rfl, SqL.of q2, rfl, k F1 H1 _ R1 s1 (.scr q3)⟩
  · cases (M.opt_ok h1).1
theorem d_drw1 {a : Expr} {fa : EX} {p2 pos : Pos} {jj : Nat} (ha : PD X W a fa) : PD X W (.Subscript a (.Constant (.int 1) jj p2) pos) (eDrw1 fa) := imp_E (pe_ix ix_list ha pe_int (fun _ _ => rfl)) fun σ H Q ⟨fr, F, ρ, n, d, n', R, e, k⟩ => by
  obtain ⟨x, n1, e1, h1⟩ := M.bind_ok e
  refine ⟨fr, F, ρ, n, x, n1, R, e1, fun F1 H1 v R1 s1 d1 => ?_⟩
  split at h1
  · cases h1
    cases d1 with
    | drw q =>
      obtain ⟨q1, q2, q3⟩ := R1.core.draw _ q
      exact ⟨_, _, 1, .int _, rfl, rfl, SqL.of q2, rfl, k F1 H1 _ R1 s1 (.int _)⟩
  · cases (M.opt_ok h1).1
def isDrw : D → Bool | .drw => true | _ => false
/-- draw[1] += 1 -/
def sDrw (fx : EX) : SX := fun ρ => M.bind (fx ρ) fun d => if isDrw d then fun n => some (.ok (.nx ρ), n + 1) else M.opt none
def rGetL (K : PySem.W.Frag) : V → V → Hp → VK → Prop := fun x y H Q => ∃ p xs j v, x = .ref p ∧ y = .int ((j : Nat) : Int) ∧ SqL K H p xs ∧ xs[j]? = some v ∧ Q v H
theorem get_list : PGet X (rGetL X.K) := by
  intro pins s σ H x y v u Q I rx ry h
  obtain ⟨p, xs, j, z, rfl, rfl, hq, he, q⟩ := h
  cases rx
  obtain ⟨t, rfl⟩ := ry
  obtain ⟨its, r, pl, hz⟩ := I.list hq
  obtain ⟨w, ew, rw'⟩ := r.get he
  have hl := r.length
  have hn := line63
  have hj : j < its.length := (List.getElem?_eq_some_iff.mp ew).1
  exact wpAny_getItem_list pl.isList (by omega) (by omega) (by simpa using ew) ⟨z, H, I, rw', q⟩
theorem Rel.drawn {K : PySem.W.Frag} {fr : Fr} {F H : Hp} {σ : St} {ρ : Env} {n m : Int} {a : Addr} (r : Rel K W fr F H σ ρ n) (q : fr.dr = some a) : Rel K W fr F (upd H a (.lst [.ref fr.sa, .int m])) σ ρ m := by
  have c := r.core
  obtain ⟨ad, s⟩ := r.slots
  obtain ⟨q1, q2, q3⟩ := c.draw _ q
  refine ⟨⟨fun b u z => ?_, fun b u z z2 z3 => ?_, c.f0, c.new, fun b u z => ?_, fun b z => ?_⟩, ad, s.len, s.val, fun i d z => ?_, s.inj⟩
  · rw [upd_ne (ne_of_none z q1)]; exact c.sub _ _ z
  · rw [upd_ne (fun e => z2 (by rw [e]; exact q))]; exact c.base b u z z2 z3
  · by_cases e : b = a
    · rw [e]; exact ⟨_, upd_same⟩
    · obtain ⟨o', z'⟩ := c.there b u z
      exact ⟨o', by rw [upd_ne e]; exact z'⟩
  · rw [q] at z
    cases z
    exact ⟨q1, upd_same, q3⟩
  · obtain ⟨z1, z2, z3, z4, z5, z6⟩ := s.own i d z
    exact ⟨z1, z2, z3, z4, z5.mono (Sub.refl _) (fun u e => by rw [upd_ne (fun e' => z3 (by rw [e']; exact q))]; exact e), z6⟩
theorem S_drw {a : Expr} {fa : EX} {p2 p3 p4 pos : Pos} {jj kk : Nat} (ha : PD X W a fa) : PDS X W (.AugAssign (.Subscript a (.Constant (.int 1) jj p2) p4) .Add (.Constant (.int 1) kk p3) pos) (sDrw fa) := imp_S (ps_augS ha pe_int get_list pe_int ip_add set_list) fun E σ H ⟨fr, F, ρ, n, o, n', R, e, k⟩ => by
  obtain ⟨x, n1, e1, h1⟩ := M.bind_ok e
  refine ⟨fr, F, ρ, n, x, n1, R, e1, fun F1 H1 v R1 s1 d1 => ?_⟩
  split at h1
  · rename_i hx
    cases h1
    unfold isDrw at hx
    split at hx
    · cases d1 with
      | drw q =>
        obtain ⟨q1, q2, q3⟩ := R1.core.draw _ q
        exact ⟨_, _, 1, _, rfl, rfl, SqL.of q2, rfl, _, _, rfl, rfl, _, _, _, 1, rfl, rfl, q2, rfl, k F1 _ σ (R1.drawn q) s1⟩
    · cases hx
  · cases (M.opt_ok h1).1
/-- the script: is it empty, its length, its items -/
def dScrNil (W : Wd) : D → D → Option D
  | .scr, .lst [] => some (.bl W.ns.isEmpty)
  | _, _ => none
def intsPy (ns : List Int) : List PyData := ns.map PyData.int
theorem dpAll_ints {K : PySem.W.Frag} {H : Hp} : ∀ ns : List Int, DpAll K H (ns.map V.int) (intsPy ns)
  | [] => .nil
  | i :: r => .cons (.int i) (dpAll_ints r)
theorem canLay_ints : ∀ ns : List Int, PyData.canLayAll0 (intsPy ns) = true
  | [] => by unfold intsPy; rfl
  | i :: r => by
    have := canLay_ints r
    unfold intsPy at this ⊢
    rw [List.map_cons]
    unfold PyData.canLayAll0
    rw [this]; unfold PyData.canLay0; rfl
theorem depth_ints : ∀ ns : List Int, PyData.depthAll (intsPy ns) = 0
  | [] => by unfold intsPy; rfl
  | i :: r => by
    have := depth_ints r
    unfold intsPy at this ⊢
    rw [List.map_cons]
    unfold PyData.depthAll
    rw [this]; unfold PyData.depth; rfl
theorem shaped_ints (ns : List Int) : SeqAt.shaped (.list (intsPy ns)) = true := by
  unfold SeqAt.shaped
  unfold PyData.canLay0 PyData.depth
  rw [canLay_ints, depth_ints]; rfl
theorem d_scrNil {a b : Expr} {fa fb : EX} {pos : Pos} (hu : X.A.units + 64 < cLine) (ha : PD X W a fa) (hb : PD X W b fb) : PD X W (.Compare a [.Eq] [b] pos) (e2 (dScrNil W) fa fb) := d_cmp (op_eqD hu) (by
  intro fr F H σ ρ n x y d v u Q R dx dy h k
  unfold dScrNil at h
  split at h
  · cases h
    cases dx with
    | scr h1 =>
      cases dy with
      | lst h2 h3 =>
        cases h3
        refine ⟨.list (intsPy W.ns), .list [], .lst (R.core.sub.sqL h1) (dpAll_ints _), .lst (SqL.of (R.core.sub _ _ h2)) .nil, shaped_ints _, by decide, ?_⟩
        have : PyData.eqv (.list (intsPy W.ns)) (.list []) = W.ns.isEmpty := by
          unfold PyData.eqv
          cases e : W.ns with
          | nil => rfl
          | cons i r => rfl
        rw [this]
        exact k F H _ R (Sub.refl _) (.bl _)
  · cases h) ha hb (nomark _)
def dLenS (W : Wd) : List D → Option D
  | [.scr] => some (.int W.ns.length)
  | _ => none
theorem q_lenS {K : PySem.W.Frag} : CallD K W (fun xs H Q => ∃ x n, xs = [x] ∧ LenV K x H n ∧ Q (.int n) H) (dLenS W) := by
  intro fr F H σ ρ n xs d vs Q R dx h k
  unfold dLenS at h
  split at h
  · cases h
    cases dx with
    | cons h1 h2 =>
      cases h2
      cases h1 with
      | scr h3 => exact ⟨_, W.ns.length, rfl, .inl ⟨_, R.core.sub.sqL h3, by simp⟩, k F H _ R (Sub.refl _) (.int _)⟩
  · cases h
def dIxS (W : Wd) : D → D → Option D
  | .scr, .int i => (atI W.ns i).map D.int
  | _, _ => none
theorem atI_map {α β : Type} (f : α → β) (xs : List α) (i : Int) : atI (xs.map f) i = (atI xs i).map f := by
  unfold atI
  rw [List.length_map]
  cases ixN xs.length i with
  | none => rfl
  | some j => simp
theorem d_ixS {a b : Expr} {fa fb : EX} {pos : Pos} (ha : PD X W a fa) (hb : PD X W b fb) (hs : PlainIx b := by exact fun _ _ => rfl) : PD X W (.Subscript a b pos) (e2 (dIxS W) fa fb) := imp_E (pe_ix ix_list ha hb hs) fun σ H Q h => d_tOp (by
  intro fr F H σ ρ n x y d v u Q R dx dy h k
  unfold dIxS at h
  split at h
  · cases dx with
    | scr h1 =>
      cases dy
      rename_i i _
      cases e : atI W.ns i with
      | none => rw [e] at h; cases h
      | some z =>
        rw [e] at h
        cases h
        exact ⟨_, _, _, .int z, rfl, rfl, R.core.sub.sqL h1, by rw [atI_map, e]; rfl, k F H _ R (Sub.refl _) (.int _)⟩
  · cases h) h

end

/-! ### the law -/
def spLaw (K : PySem.W.Frag) : Sp := fun vs H Q _ => ∃ (a : Addr) (ns : List Int), vs = [.ref a] ∧ SqL K H a (ns.map V.int) ∧ ns.length ≤ 63 ∧ ∀ H', Q (.bl true) H'
/-- the law's first statement is «draw = [script, 0]» -/
theorem okLaw {P : Program} {w : World} {K : PySem.W.Frag} {mg : Str → Option Value} {base : Heap} {x qual : Str} {st : Stmt} {f : Addr} {fd : FuncData} {N : List Str} {k : Nat} {y z : Str} {px py pl p0 pa : Pos} {jj : Nat} {rest : List Stmt} {cl : Nat → Addr} (g : Wd → SX)
    (F : Fun K x qual st f fd) (S : FnScope N [y] (defScope st)) (hbody : defBody st = .Assign [.Name z px] (.List [.Name y py, .Constant (.int 0) jj p0] pl) pa :: rest)
    (first : ∀ (cdv : Value) (A : Around) (outer : List PySem.Env) (s : Shared) (H : Hp) (E : XK), PS (cxOf CX0 P w K mg base N qual (defScope st) f cdv A outer s H E).nox (.Assign [.Name z px] (.List [.Name y py, .Constant (.int 0) jj p0] pl) pa) (tAsg (tLst (tCons (tVar 0) (tCons (tC (.int 0)) tNil))) (gName 1)))
    (body : ∀ (W : Wd), W.cl = cl → ∀ (cdv : Value) (A : Around) (outer : List PySem.Env) (s : Shared) (H : Hp) (E : XK), Room k (A.deeper (envOfC qual (defScope st) s.heap.objs.size f cdv)) → PSs (cxOf CX0 P w K mg base N qual (defScope st) f cdv A outer s H E).nox rest (tS K W (g W)))
    (good : ∀ W : Wd, W.ns.length ≤ 63 → W.cl = cl → ∃ n', g W (.val .scr :: .val .drw :: List.replicate (N.length - 2) Sl.no) 0 = some (.ok (.ret (.bl true)), n')) (hN : 2 ≤ N.length) :
    FnOk P w K mg base CX0 (k + 1) f fd [y] (spLaw K) := by
  refine F.ok S (fun vs H Q E h => ?_) fun cdv A outer s H vs Q E hr h => ?_
  · obtain ⟨a, ns, rfl, _⟩ := h
    rfl
  · obtain ⟨a, ns, rfl, hS, hl, hk⟩ := h
    rw [hbody]
    refine ⟨_, pss_cons (first cdv A outer s H E) (body ⟨cl, ns⟩ rfl cdv A outer s H E hr), ?_⟩
    refine ⟨_, rfl, (by show 2 ≤ sizeLine; decide), fun p hp => ?_⟩
    obtain ⟨n', e⟩ := good ⟨cl, ns⟩ hl rfl
    have hne : p ≠ a ∨ ∃ o, K.lookup a = some o := by
      rcases hS with (h | ⟨o, h⟩) | ⟨o, _, _, h, _⟩
      · exact .inl fun e => by rw [e, h] at hp; cases hp
      · exact .inl fun e => by rw [e, h] at hp; cases hp
      · exact .inr ⟨o, h⟩
    let F0 : Hp := fun b => if b = p then none else if b = a then H a else none
    have fa : ∀ u, F0 a = some u → H a = some u := fun u q => by
      by_cases e : a = p
      · simp [F0, e] at q
      · simpa [F0, e] using q
    have hF : SqL K F0 a (ns.map V.int) := by
      rcases hS with (h | ⟨o, h⟩) | h
      · have : a ≠ p := fun e => by rw [← e, h] at hp; cases hp
        exact .inl (.inl (by simp [F0, this, h]))
      · have : a ≠ p := fun e => by rw [← e, h] at hp; cases hp
        exact .inl (.inr ⟨o, by simp [F0, this, h]⟩)
      · exact .inr h
    have hsub : Sub F0 (upd H p (.lst [.ref a, .int 0])) := fun b u q => by
      by_cases e : b = p
      · simp [F0, e] at q
      · by_cases e2 : b = a
        · subst e2
          rw [upd_ne e]; exact fa u q
        · simp [F0, e, e2] at q
    have c : Core K ⟨cl, ns⟩ ⟨some p, a, upd H p (.lst [.ref a, .int 0]), F0, fun _ => False⟩ F0 (upd H p (.lst [.ref a, .int 0])) 0 :=
      ⟨hsub, fun _ _ h _ _ => h, Sub.refl _, fun _ _ _ h => h, fun _ o h => ⟨o, h⟩, fun b q => by
        cases q
        exact ⟨by simp [F0], upd_same, hF⟩⟩
    refine ⟨_, F0, _, 0, _, n', ⟨c, fun _ => 0, ?_, fun i d q => ?_, fun i d q => ?_, fun i j d d' q _ => ?_⟩, e, fun F' H' v c' s' d' => ?_⟩
    · unfold L2.start
      simp
      omega
    · cases i with
      | zero =>
        cases q
        refine ⟨.ref a, ?_, .scr hF⟩
        show (List.set _ 1 _)[0]? = _
        rw [List.getElem?_set_ne (by decide)]; rfl
      | succ i =>
        cases i with
        | zero =>
          cases q
          refine ⟨.ref p, ?_, .drw rfl⟩
          rw [get_set_self (by unfold L2.start; simp; omega)]
        | succ i =>
          have := List.mem_of_getElem? (show (List.replicate (N.length - 2) Sl.no)[i]? = some (Sl.val d) from q)
          rw [List.mem_replicate] at this
          cases this.2
    · cases i with
      | zero => cases q
      | succ i =>
        cases i with
        | zero => cases q
        | succ i =>
          have := List.mem_of_getElem? (show (List.replicate (N.length - 2) Sl.no)[i]? = some (Sl.own d) from q)
          rw [List.mem_replicate] at this
          cases this.2
    · cases i with
      | zero => cases q
      | succ i =>
        cases i with
        | zero => cases q
        | succ i =>
          have := List.mem_of_getElem? (show (List.replicate (N.length - 2) Sl.no)[i]? = some (Sl.own d) from q)
          rw [List.mem_replicate] at this
          cases this.2
    · cases d'
      exact hk H'
theorem law_walk {l : PySem.W.OpenLaw} {q : Program} {loose : List Str} {XP : (Str → Option Value) → Heap → Prop} {YP : World → Heap → Prop} {d : DefRec} {K : Params → PySem.W.Frag} {k : Nat} {x : Str} (hn : l.most = some 63) (hdf : d.params.defaults = []) (hr : Room k callerA)
    (hY : ∀ (w : World) (h : Heap), YP w h → (K w.params).In h)
    (F : ∀ (w : World) (mg : Str → Option Value) (fa : Addr) (h : Heap), (K w.params).In h → h.Ns mainGlobals mg → mg d.name = some (.ref fa) →
      ∃ fd : FuncData, (∀ (s : Shared) (u : Value), BindsTo s fd ⟨[u], []⟩ [(x, u)]) ∧ ∀ base : Heap, (K w.params).In base → base.Ns mainGlobals mg → FnOk l.prog w (K w.params) mg base CX0 k fa fd [x] (spLaw (K w.params))) :
    PySem.W.WalkO q loose XP YP l.row.toRowW d [] (fun f vs => PySem.call f vs) :=
  L2.walk_of (n := 63) (k := k) (x := x) (CX := fun _ => CX0) (sp := fun w => spLaw (K w.params)) hn (by decide) hdf hr hY F (fun _ _ a ns hl _ hS => ⟨a, ns, rfl, hS, hl, fun _ => rfl⟩) fun _ _ _ _ _ z => z
end DL
end

section
set_option Elab.async false
set_option linter.all false
set_option autoImplicit false
set_option maxRecDepth 100000
set_option maxHeartbeats 1000000
namespace DL
open PySem PySem.Spec L2
/-! ### callees, bundled -/
def Cal (P : Program) (w : World) (K : PySem.W.Frag) (mg : Str → Option Value) (base : Heap) (x : Str) (k : Nat) (sp : Sp) : Prop :=
  ∃ f fd ps, FnOk P w K mg base CX0 k f fd ps sp ∧ mg x = some (.ref f) ∧ PySem.W.keepIn K (.ref f) = true ∧ Binds K fd ps []
def CalM (P : Program) (w : World) (K : PySem.W.Frag) (mg : Str → Option Value) (base : Heap) (C : Addr) (m : Str) (k : Nat) (sp : Sp) : Prop :=
  ∃ f fd ps, FnOk P w K mg base CX0 k f fd ps sp ∧ Meth K C m f ∧ Binds K fd ps []
def CalI (P : Program) (w : World) (K : PySem.W.Frag) (mg : Str → Option Value) (base : Heap) (C : Addr) (x : Str) (k : Nat) (sp : Sp) : Prop :=
  ∃ f fd ps, FnOk P w K mg base CX0 k f fd ps sp ∧ Mk K C f ∧ mg x = some (.ref C) ∧ Binds K fd ps []
section
variable {X : Cx} {W : Wd} {k : Nat} {x m : Str} {p pos apos : Pos} {e o : Expr} {es : List Expr} {fx : FX} {fo : EX} {fs : EXs} {mm c : Nat} {pl : Sem Bool}
theorem c_call (F : Cal X.prog X.w X.K X.mg X.base x k (spD X.K W fx mm)) (hr : Room k X.A) (hg : Gl X x)
    (ha : PDs X W (e :: es) fs) (hl : ∀ ρ n ds n', fs ρ n = some (.ok ds, n') → ds.length = mm) (hdb : (x == ("__debug__" : Str)) = false := by decide) (he : starEach (e :: es) X.env = (false, eval e X.env) :: starEach es X.env := by rfl) (hpl : (backTo pos (starEach es X.env)).any (·.1) = false := by rfl) :
    PD X W (.Call (.Name x p) (e :: es) [] pos) (eCall fx fs) := by
  obtain ⟨f, fd, ps, h1, h2, h3, h4⟩ := F
  exact d_call h1 hr hg h2 h3 h4 ha hl hdb he hpl
theorem c_call0 (F : Cal X.prog X.w X.K X.mg X.base x k (spD X.K W fx 0)) (hr : Room k X.A) (hg : Gl X x) (hdb : (x == ("__debug__" : Str)) = false := by decide) :
    PD X W (.Call (.Name x p) [] [] pos) (eCall fx eNil) := by
  obtain ⟨f, fd, ps, h1, h2, h3, h4⟩ := F
  exact d_call0 h1 hr hg h2 h3 h4 hdb
theorem c_meth (F : CalM X.prog X.w X.K X.mg X.base (W.cl c) m k (spD X.K W fx (mm + 1))) (hr : Room k X.A) (cl : Cls X.K (W.cl c)) (ho : PD X W o fo) (ha : PDs X W (e :: es) fs) (hl : ∀ ρ n ds n', fs ρ n = some (.ok ds, n') → ds.length = mm)
    (hst : starEach (e :: es) X.env = (false, eval e X.env) :: starEach es X.env := by rfl) (hpl : (backTo pos (starEach es X.env)).any (·.1) = false := by rfl)
    (ht : eval (.Call (.Attribute o m apos) (e :: es) [] pos) X.env = (do
      let ov ← eval o X.env
      standAt apos.atName
      let (f, first) ← holding [ov] (getMethod ov m pl)
      callWith pos f first (backTo pos (starEach (e :: es) X.env)) (backToKw pos (keywordEach [] X.env))) := by rfl) :
    PD X W (.Call (.Attribute o m apos) (e :: es) [] pos) (eMeth c m fx fo fs) := by
  obtain ⟨f, fd, ps, h1, h2, h4⟩ := F
  exact d_meth ho cl h2 h1 hr h4 ha hl hst hpl ht
theorem c_meth0 (F : CalM X.prog X.w X.K X.mg X.base (W.cl c) m k (spD X.K W fx 1)) (hr : Room k X.A) (cl : Cls X.K (W.cl c)) (ho : PD X W o fo)
    (ht : eval (.Call (.Attribute o m apos) [] [] pos) X.env = (do
      let ov ← eval o X.env
      standAt apos.atName
      let (f, first) ← holding [ov] (getMethod ov m pl)
      callWith pos f first (backTo pos (starEach [] X.env)) (backToKw pos (keywordEach [] X.env))) := by rfl) :
    PD X W (.Call (.Attribute o m apos) [] [] pos) (eMeth c m fx fo eNil) := by
  obtain ⟨f, fd, ps, h1, h2, h4⟩ := F
  exact d_meth0 ho cl h2 h1 hr h4 ht
theorem c_make (F : CalI X.prog X.w X.K X.mg X.base (W.cl c) x k (spI X.K W fx c mm)) (hr : Room (k + 1) X.A) (hg : Gl X x)
    (ha : PDs X W (e :: es) fs) (hl : ∀ ρ n ds n', fs ρ n = some (.ok ds, n') → ds.length = mm) (hdb : (x == ("__debug__" : Str)) = false := by decide) (he : starEach (e :: es) X.env = (false, eval e X.env) :: starEach es X.env := by rfl) (hpl : (backTo pos (starEach es X.env)).any (·.1) = false := by rfl) :
    PD X W (.Call (.Name x p) (e :: es) [] pos) (eMake c fx fs) := by
  obtain ⟨f, fd, ps, h1, h2, h3, h4⟩ := F
  exact d_make h2 h1 hr hg h3 h4 ha hl hdb he hpl
/-! ### comparisons as tests -/
variable {a b : Expr} {fa fb : EX} {j : Nat} {q : Pos}
theorem t_of {o : CmpOp} {r : R2} {op : D → D → Option D} (ho : OpR X (compareOp o) r) (hd : Op2 X.K W r op) (ha : PD X W a fa) (hb : PD X W b fb) (hm : behindInMarks o b = false) : PDT X W (.Compare a [o] [b] pos) (tB (e2 op fa fb)) := t_cmp ho hd ha hb hm
theorem q_lt {K : PySem.W.Frag} : Op2 K W (fun x y H Q => (rI0 fun i j => .bl (decide (i < j))) x y H Q ∨ (∃ i j, x = .str i ∧ y = .str j ∧ Q (.bl (decide (i.cps.toList < j.cps.toList))) H)) dLt := by
  intro fr F H σ ρ n x y d v u Q R dx dy h k
  unfold dLt at h
  split at h
  · cases dx; cases dy; cases h
    exact .inl ⟨_, _, rfl, rfl, k F H _ R (Sub.refl _) (.bl _)⟩
  · cases dx; cases dy; cases h
    exact .inr ⟨_, _, rfl, rfl, k F H _ R (Sub.refl _) (.bl _)⟩
  · cases h
theorem q_eq {K : PySem.W.Frag} : Op2 K W (rEqD K) dEq := by
  intro fr F H σ ρ n x y d v u Q R dx dy h k
  unfold dEq at h
  split at h
  · cases h
    obtain ⟨p, q, h1, h2, h3, h4, rfl⟩ := dEqB_ok ‹_›
    exact ⟨p, q, dp_of R.core.sub dx h1, dp_of R.core.sub dy h2, h3, h4, k F H _ R (Sub.refl _) (.bl _)⟩
  · cases h
theorem q_ne {K : PySem.W.Frag} : Op2 K W (rNeD K) dNe := by
  intro fr F H σ ρ n x y d v u Q R dx dy h k
  unfold dNe at h
  split at h
  · cases h
    obtain ⟨p, q, h1, h2, h3, h4, rfl⟩ := dEqB_ok ‹_›
    exact ⟨p, q, dp_of R.core.sub dx h1, dp_of R.core.sub dy h2, h3, h4, k F H _ R (Sub.refl _) (.bl _)⟩
  · cases h
theorem q_scrNil {K : PySem.W.Frag} : Op2 K W (rEqD K) (dScrNil W) := by
  intro fr F H σ ρ n x y d v u Q R dx dy h k
  unfold dScrNil at h
  split at h
  · cases h
    cases dx with
    | scr h1 =>
      cases dy with
      | lst h2 h3 =>
        cases h3
        refine ⟨.list (intsPy W.ns), .list [], .lst (R.core.sub.sqL h1) (dpAll_ints _), .lst (SqL.of (R.core.sub _ _ h2)) .nil, shaped_ints _, by decide, ?_⟩
        have : PyData.eqv (.list (intsPy W.ns)) (.list []) = W.ns.isEmpty := by
          unfold PyData.eqv
          cases e : W.ns with
          | nil => rfl
          | cons i r => rfl
        rw [this]
        exact k F H _ R (Sub.refl _) (.bl _)
  · cases h
theorem q_CI {K : PySem.W.Frag} (p : Int → Int → Bool) : Op2 K W (rI0 fun i j => .bl (p i j)) (dCI p) := q_I0 fun _ _ _ _ _ _ => .bl _
theorem t_lt (ha : PD X W a fa) (hb : PD X W b fb) : PDT X W (.Compare a [.Lt] [b] pos) (tB (e2 dLt fa fb)) := t_cmp (op_lt.or op_lt_str) q_lt ha hb (nomark _)
theorem t_le (ha : PD X W a fa) (hb : PD X W b fb) : PDT X W (.Compare a [.LtE] [b] pos) (tB (e2 dLe fa fb)) := t_cmp op_le (q_CI _) ha hb (nomark _)
theorem t_gt (ha : PD X W a fa) (hb : PD X W b fb) : PDT X W (.Compare a [.Gt] [b] pos) (tB (e2 dGt fa fb)) := t_cmp op_gt (q_CI _) ha hb (nomark _)
theorem t_ge (ha : PD X W a fa) (hb : PD X W b fb) : PDT X W (.Compare a [.GtE] [b] pos) (tB (e2 dGe fa fb)) := t_cmp op_ge (q_CI _) ha hb (nomark _)
theorem t_eq (hu : X.A.units + 64 < cLine) (ha : PD X W a fa) (hb : PD X W b fb) : PDT X W (.Compare a [.Eq] [b] pos) (tB (e2 dEq fa fb)) := t_cmp (op_eqD hu) q_eq ha hb (nomark _)
theorem t_ne (hu : X.A.units + 64 < cLine) (ha : PD X W a fa) (hb : PD X W b fb) : PDT X W (.Compare a [.NotEq] [b] pos) (tB (e2 dNe fa fb)) := t_cmp (op_neD hu) q_ne ha hb (nomark _)
theorem t_scrNil (hu : X.A.units + 64 < cLine) (ha : PD X W a fa) (hb : PD X W b fb) : PDT X W (.Compare a [.Eq] [b] pos) (tB (e2 (dScrNil W) fa fb)) := t_cmp (op_eqD hu) q_scrNil ha hb (nomark _)
theorem t_isN (ha : PD X W a fa) : PDT X W (.Compare a [.Is] [.Constant .none j q] pos) (tB (e1 (fun d => some (.bl (isNon d))) fa)) := imp_T (pt_cmp (pc_isN ha) rfl) fun σ H Q ⟨fr, F, ρ, n, b, n', R, e, k⟩ => by
  obtain ⟨x, n1, h1, h⟩ := M.bind_ok e
  obtain ⟨y, n2, h3, h4⟩ := M.bind_ok h1
  obtain ⟨h5, h6⟩ := M.opt_ok h4
  obtain ⟨h7, h8⟩ := M.opt_ok h
  subst h6
  cases h5
  cases h7
  subst h8
  exact ⟨fr, F, ρ, n, y, _, R, h3, fun F1 H1 v R1 s1 d1 => ⟨_, rfl, by rw [isNon_of d1]; exact k F1 H1 R1 s1⟩⟩
theorem t_notN (ha : PD X W a fa) : PDT X W (.Compare a [.IsNot] [.Constant .none j q] pos) (tB (e1 (fun d => some (.bl (!isNon d))) fa)) := imp_T (pt_cmp (pc_notN ha) rfl) fun σ H Q ⟨fr, F, ρ, n, b, n', R, e, k⟩ => by
  obtain ⟨x, n1, h1, h⟩ := M.bind_ok e
  obtain ⟨y, n2, h3, h4⟩ := M.bind_ok h1
  obtain ⟨h5, h6⟩ := M.opt_ok h4
  obtain ⟨h7, h8⟩ := M.opt_ok h
  subst h6
  cases h5
  cases h7
  subst h8
  exact ⟨fr, F, ρ, n, y, _, R, h3, fun F1 H1 v R1 s1 d1 => ⟨_, rfl, by rw [isNon_of d1]; exact k F1 H1 R1 s1⟩⟩
end
end DL
end

section
set_option Elab.async false
set_option linter.all false
set_option autoImplicit false
set_option maxRecDepth 100000
namespace DL
open PySem PySem.Spec L2
/-! ### isinstance -/
def tyN : D → Option String
  | .non => some "NoneType"
  | .bl _ => some "bool"
  | .int _ => some "int"
  | .str _ => some "str"
  | .tup _ => some "tuple"
  | .lst _ => some "list"
  | .dic _ _ => some "dict"
  | _ => none
theorem ty_of {K : PySem.W.Frag} {W : Wd} {dr : Option Addr} {F H : Hp} (s : Sub F H) {v : V} {d : D} {T : String} (h : Den K W dr F v d) (e : tyN d = some T) : TyX K H v (.type T) := by
  cases h with
  | non => cases e; exact .base .non
  | bl b => cases e; exact .base (.bl b)
  | int b => cases e; exact .base (.int b)
  | str b => cases e; exact .base (.str b)
  | tup h1 h2 =>
    cases e
    rcases s.sqT h1 with h | ⟨o, its, n, hk, hc, _⟩
    · rcases h with h | ⟨o, h⟩
      · exact .base (.tup h)
      · exact .fTuple h
    · exact .kTuple hk hc
  | lst h1 h2 => cases e; exact .base (.lst (s _ _ h1))
  | scr h1 => cases e
  | dic h0 h1 h2 =>
    cases e
    rcases s.rd h1 with h | ⟨o, h⟩
    · exact .base (.dK h)
    · exact .fDict h
  | dit h0 h1 h2 => cases e
  | obj => cases e
  | drw => cases e
def dIsi (T : String) (d : D) : Option D := match tyN d with
  | some t => (match kitB t T with | some b => some (.bl b) | none => none)
  | none => none
section
variable {X : Cx} {W : Wd} {x : Str} {p tp pos : Pos} {e : Expr} {f : EX}
theorem d_isi {T : String} {Tn : Str} (hg : Gl X "isinstance") (hm : X.mg "isinstance" = none) (hgT : Gl X Tn) (hmT : X.mg Tn = none) (hvT : bootBuiltins Tn = some (.type T)) (ha : PD X W e f) (hn : Tn ≠ "__name__" := by decide) (hd : (Tn == ("__debug__" : Str)) = false := by decide)
    (he : starEach [e, .Name Tn tp] X.env = (false, eval e X.env) :: starEach [.Name Tn tp] X.env := by rfl) (he2 : starEach [.Name Tn tp] X.env = (false, eval (.Name Tn tp) X.env) :: starEach [] X.env := by rfl) (hpl : (backTo pos (starEach [.Name Tn tp] X.env)).any (·.1) = false := by rfl) :
    PD X W (.Call (.Name "isinstance" p) [e, .Name Tn tp] [] pos) (e1 (dIsi T) f) :=
  imp_E (pe_callB call_isi hg hm rfl (pa_cons ha (pa_cons (pe_bltn (v := .ty T) hgT hmT hvT rfl hn hd) pa_nil he2) he) (by decide) (by decide) he hpl) fun σ H Q ⟨fr, F, ρ, n, d, n', R, ev, k⟩ => by
    obtain ⟨y, n1, h1, h2⟩ := M.bind_ok ev
    obtain ⟨h3, h4⟩ := M.opt_ok h2
    subst h4
    unfold dIsi at h3
    split at h3
    · split at h3
      · cases h3
        exact ⟨fr, F, ρ, n, y, _, R, h1, fun F1 H1 v R1 s1 d1 => ⟨v, .ty T, _, _, _, rfl, .ty T, ty_of R1.core.sub d1 ‹_›, kit_ty ‹_›, k F1 H1 _ R1 s1 (.bl _)⟩⟩
      · cases h3
    · cases h3
end
/-! ### a dict of the module with text keys -/
def flDB : D → Value → Bool
  | .non, .none => true
  | .bl a, .bool b => a == b
  | .int i, .int j _ => i == j
  | .str x, .str y _ => x == y
  | _, _ => false
def allDB : List D → List Value → Bool
  | [], [] => true
  | d :: ds, v :: vs => flDB d v && allDB ds vs
  | _, _ => false
def relDB (K : PySem.W.Frag) (d : D) (u : Value) : Bool := match d, u with
  | .tup ds, .ref a => (match K.lookup a with
    | some ⟨.type c, _, .seq its _, _⟩ => decide (c = "tuple") && (decide (its.size ≤ 1000) && allDB ds its.toList)
    | _ => false)
  | d, u => flDB d u
def tabDB (K : PySem.W.Frag) (a : Addr) (tbl : List (Str × D)) : Bool := tbl.all fun q => match PySem.W.nsIn K a q.1 with
  | some (some u) => relDB K q.2 u
  | _ => false
theorem flDB_ok {K : PySem.W.Frag} {W : Wd} {d : D} {u : Value} (h : flDB d u = true) : ∃ v, RelV v u ∧ ∀ dr F, Den K W dr F v d := by
  unfold flDB at h
  split at h
  · exact ⟨.non, rfl, fun _ _ => .non⟩
  · rw [eq_of_beq h]; exact ⟨.bl _, rfl, fun _ _ => .bl _⟩
  · rw [eq_of_beq h]; exact ⟨.int _, ⟨_, rfl⟩, fun _ _ => .int _⟩
  · rw [eq_of_beq h]; exact ⟨.str _, ⟨_, rfl⟩, fun _ _ => .str _⟩
  · cases h
theorem allDB_ok {K : PySem.W.Frag} {W : Wd} : ∀ {ds : List D} {us : List Value}, allDB ds us = true → ∃ vs, Vals vs us ∧ ∀ dr F, Dens K W dr F vs ds
  | [], [], _ => ⟨[], .nil, fun _ _ => .nil⟩
  | d :: ds, u :: us, h => by
    have h' : (flDB d u && allDB ds us) = true := h
    rw [Bool.and_eq_true] at h'
    obtain ⟨v, r, e⟩ := flDB_ok (K := K) (W := W) h'.1
    obtain ⟨vs, rs, es⟩ := allDB_ok (K := K) (W := W) h'.2
    exact ⟨v :: vs, .cons r rs, fun dr F => .cons (e dr F) (es dr F)⟩
  | [], _ :: _, h => by cases h
  | _ :: _, [], h => by cases h
theorem relDB_ok {K : PySem.W.Frag} {W : Wd} {d : D} {u : Value} (h : relDB K d u = true) : ∃ v, RelV v u ∧ ∀ dr F, Den K W dr F v d := by
  unfold relDB at h
  split at h
  · split at h
    · rename_i c od its n sl q
      rw [Bool.and_eq_true, Bool.and_eq_true] at h
      obtain ⟨h1, h2, h3⟩ := h
      have hc := of_decide_eq_true h1
      subst hc
      obtain ⟨vs, rs, es⟩ := allDB_ok (K := K) (W := W) h3
      exact ⟨.ref _, rfl, fun dr F => .tup (.inr ⟨_, its, n, q, rfl, rfl, by have := of_decide_eq_true h2; rw [sizeLine_eq]; omega, rs⟩) (es dr F)⟩
    · cases h
  · exact flDB_ok h
structure KTab (K : PySem.W.Frag) (w : World) (W : Wd) (a : Addr) (tbl : List (Str × D)) : Prop where
  kd : ∃ es n, KDict K w a es n
  yes : ∀ z x, tbl.lookup z = some x → ∃ u v, PySem.W.nsIn K a z = some (some u) ∧ RelV v u ∧ ∀ dr F, Den K W dr F v x
  no : ∀ z, tbl.lookup z = none → PySem.W.nsIn K a z = some none
theorem lk_mem {z : Str} {x : D} : ∀ {tbl : List (Str × D)}, tbl.lookup z = some x → (z, x) ∈ tbl
  | (k, y) :: r, h => by
    rw [List.lookup_cons] at h
    cases q : z == k with
    | true =>
      rw [q] at h
      injection h with h
      rw [← h, eq_of_beq q]
      exact List.mem_cons_self
    | false =>
      rw [q] at h
      exact List.mem_cons_of_mem _ (lk_mem h)
theorem lk_no {z : Str} : ∀ {tbl : List (Str × D)}, tbl.lookup z = none → ∀ k ∈ tbl.map (·.1), k ≠ z
  | [], _, _, h => by cases h
  | (k, y) :: r, h, k', hk => by
    rw [List.lookup_cons] at h
    cases q : z == k with
    | true => rw [q] at h; cases h
    | false =>
      rw [q] at h
      rcases List.mem_cons.mp hk with e | e
      · subst e
        intro e
        rw [e] at q
        simp at q
      · exact lk_no h k' e
theorem ktab_of {K : PySem.W.Frag} {w : World} {W : Wd} {a : Addr} {tbl : List (Str × D)} (h1 : He.dicW K a = some (He.keysIn w.params (tbl.map (·.1)))) (h2 : tabDB K a tbl = true) : KTab K w W a tbl := by
  refine ⟨He.dicW_ok h1, fun z x e => ?_, fun z e => ?_⟩
  · have h3 := List.all_eq_true.mp h2 _ (lk_mem e)
    cases q : PySem.W.nsIn K a z with
    | none => rw [q] at h3; cases h3
    | some r =>
      rw [q] at h3
      cases r with
      | none => cases h3
      | some u =>
        obtain ⟨v, r, hd⟩ := relDB_ok (W := W) h3
        exact ⟨u, v, rfl, r, hd⟩
  · obtain ⟨es, n, T⟩ := He.dicW_ok h1
    unfold He.dicW at h1
    rw [T.at_] at h1
    have hk : es.toList.map He.keyOf = He.keysIn w.params (tbl.map (·.1)) := by
      simp [T.low] at h1
      exact h1
    have key : ∀ en ∈ es.toList, ∃ k t, en.key = .str k t ∧ k ≠ z := fun en hen => by
      have : He.keyOf en ∈ He.keysIn w.params (tbl.map (·.1)) := by rw [← hk]; exact List.mem_map_of_mem hen
      unfold He.keysIn at this
      obtain ⟨k, hk1, hk2⟩ := List.mem_map.mp this
      unfold He.keyOf at hk2
      split at hk2
      · rename_i x t q
        injection hk2 with hk2
        injection hk2 with hk2 hk3
        exact ⟨x, t, q, by rw [← hk2]; exact lk_no e k hk1⟩
      · cases hk2
    unfold PySem.W.nsIn
    rw [T.at_]
    have f1 : es.toList.find? (·.key.isStr z) = none := List.find?_eq_none.mpr fun en hen => by
      obtain ⟨k, t, q, hne⟩ := key en hen
      rw [q]
      show ¬ ((k == z) = true)
      exact fun h => hne (eq_of_beq h)
    have f2 : es.toList.any (·.refKey) = false := List.any_eq_false.mpr fun en hen => by
      obtain ⟨k, t, q, hne⟩ := key en hen
      unfold DictEntry.refKey
      rw [q]
      simp
    show (match es.toList.find? (·.key.isStr z) with | some e => some (some e.val) | none => if es.toList.any (·.refKey) then none else some none) = some none
    rw [f1, f2]
    rfl
section
variable {X : Cx} {W : Wd} {x : Str} {p pos : Pos} {e : Expr} {f : EX} {a : Addr} {tbl : List (Str × D)}
def dInK (tbl : List (Str × D)) : D → Option D
  | .str z => some (.bl (tbl.lookup z).isSome)
  | _ => none
def dNiK (tbl : List (Str × D)) : D → Option D
  | .str z => some (.bl (!(tbl.lookup z).isSome))
  | _ => none
def dIxK (tbl : List (Str × D)) : D → Option D
  | .str z => tbl.lookup z
  | _ => none
theorem d_kd {K : PySem.W.Frag} {r : R2} {op : D → Option D} {fe : EX} {tn : TE} (hn : tn = tC (.ref a)) (hd : ∀ (H : Hp) (v : V) (d y : D) (Q : VK) (fr : Fr) (F : Hp), Den K W fr.dr F v d → op d = some y → (∀ w, (∀ dr F, Den K W dr F w y) → Q w H) → r v (.ref a) H Q) {σ : St} {H : Hp} {Q : VK} (h : tD K W (e1 op fe) σ H Q) : tOp r (tD K W fe) tn σ H Q := by
  subst hn
  obtain ⟨fr, F, ρ, n, d, n', R, e, k⟩ := h
  obtain ⟨y, n1, h1, h2⟩ := M.bind_ok e
  obtain ⟨h3, h4⟩ := M.opt_ok h2
  subst h4
  exact ⟨fr, F, ρ, n, y, _, R, h1, fun F1 H1 v R1 s1 d1 => hd H1 v y d Q fr F1 d1 h3 fun w hw => k F1 H1 w R1 s1 (hw _ _)⟩
theorem d_inK (T : KTab X.K X.w W a tbl) (hg : Gl X x) (hm : X.mg x = some (.ref a)) (he : PD X W e f) (hd : (x == ("__debug__" : Str)) = false := by decide) (hb : behindInMarks .In (.Name x p) = false := by rfl) : PD X W (.Compare e [.In] [.Name x p] pos) (e1 (dInK tbl) f) := by
  obtain ⟨es, n, D⟩ := T.kd
  refine imp_E (pe_cmpR (op_in_kd D) he (pe_glob (v := .ref a) hg hm rfl hd) hb) fun σ H Q h => d_kd rfl (fun H v d y Q fr F dv ey k => ?_) h
  unfold dInK at ey
  split at ey
  · rename_i z
    cases dv; cases ey
    cases q : tbl.lookup z with
    | none => exact ⟨z, none, rfl, rfl, T.no z q, k _ fun _ _ => by rw [q]; exact .bl _⟩
    | some y =>
      obtain ⟨u, v, h1, h2, h3⟩ := T.yes z y q
      exact ⟨z, some u, rfl, rfl, h1, k _ fun _ _ => by rw [q]; exact .bl _⟩
  · cases ey
theorem d_niK (T : KTab X.K X.w W a tbl) (hg : Gl X x) (hm : X.mg x = some (.ref a)) (he : PD X W e f) (hd : (x == ("__debug__" : Str)) = false := by decide) (hb : behindInMarks .NotIn (.Name x p) = false := by rfl) : PD X W (.Compare e [.NotIn] [.Name x p] pos) (e1 (dNiK tbl) f) := by
  obtain ⟨es, n, D⟩ := T.kd
  refine imp_E (pe_cmpR (op_notIn_kd D) he (pe_glob (v := .ref a) hg hm rfl hd) hb) fun σ H Q h => d_kd rfl (fun H v d y Q fr F dv ey k => ?_) h
  unfold dNiK at ey
  split at ey
  · rename_i z
    cases dv; cases ey
    cases q : tbl.lookup z with
    | none => exact ⟨z, none, rfl, rfl, T.no z q, k _ fun _ _ => by rw [q]; exact .bl _⟩
    | some y =>
      obtain ⟨u, v, h1, h2, h3⟩ := T.yes z y q
      exact ⟨z, some u, rfl, rfl, h1, k _ fun _ _ => by rw [q]; exact .bl _⟩
  · cases ey
theorem d_ixK (T : KTab X.K X.w W a tbl) (hg : Gl X x) (hm : X.mg x = some (.ref a)) (he : PD X W e f) (hd : (x == ("__debug__" : Str)) = false := by decide) (hs : PlainIx e := by exact fun _ _ => rfl) : PD X W (.Subscript (.Name x p) e pos) (e1 (dIxK tbl) f) := by
  refine imp_E (pe_ix ix_kdict (pe_glob (v := .ref a) hg hm rfl hd) he hs) fun σ H Q h => ?_
  obtain ⟨fr, F, ρ, n, d, n', R, e, k⟩ := h
  obtain ⟨y, n1, h1, h2⟩ := M.bind_ok e
  obtain ⟨h3, h4⟩ := M.opt_ok h2
  subst h4
  refine ⟨fr, F, ρ, n, y, _, R, h1, fun F1 H1 v R1 s1 d1 => ?_⟩
  unfold dIxK at h3
  split at h3
  · cases d1
    obtain ⟨es, m, D⟩ := T.kd
    obtain ⟨u, v, g1, g2, g3⟩ := T.yes _ _ h3
    exact ⟨a, _, v, rfl, rfl, ⟨es, m, u, D.at_, D.lit, g1, g2⟩, k F1 H1 v R1 s1 (g3 _ _)⟩
  · cases h3
end
end DL
end

section
set_option Elab.async false
set_option linter.all false
set_option autoImplicit false
set_option maxRecDepth 100000
namespace DL
open PySem PySem.Spec L2 PyProof.Rows
section
variable {prog : Program} {w : World} {A : Around} {E : Value → Shared → Prop} {s : Shared}
theorem sliceApplied_rev {sl : Addr} {vs : Value} {n : Nat} {Q : Int × Int × Nat → Shared → Prop} (hs : s.heap.IsSliceOf sl .none .none vs) (ps : IsPart vs (some (-1)))
    (h : Q (((n : Int) - 1), -1, n) s) : wpAny (model prog w) A (Builtin.Slice.sliceApplied (.ref sl) (pure (n : Int))) Q E s := by
  obtain ⟨os, hos, hcs, hds⟩ := id hs
  unfold Builtin.Slice.sliceApplied Builtin.Slice.sliceFields
  refine wpAny_bind (wpAny_bind (wpAny_field hos hds (x := .none) rfl (wpAny_bind (wpAny_field hos hds (x := .none) rfl (wpAny_bind (wpAny_field hos hds (x := vs) rfl (wpAny_pure ?_)))))))
  refine wpAny_bind (HT.slicePart_ ps ?_)
  show wpAny _ _ (if ((-1 : Int) == 0) = true then _ else _) _ _ s
  rw [if_neg (by decide)]
  refine wpAny_bind (HT.slicePart_ .none (wpAny_bind (HT.slicePart_ .none (wpAny_bind (wpAny_pure ?_)))))
  show wpAny _ _ (pure ((n : Int) - 1, (-1 : Int), Builtin.Slice.slicePlaces ((n : Int) - 1) (-1) (-1))) _ _ s
  have e : Builtin.Slice.slicePlaces ((n : Int) - 1) (-1) (-1) = n := by
    unfold Builtin.Slice.slicePlaces
    rw [if_neg (by omega), show (-(-1 : Int)) = 1 from rfl, Int.ediv_one]
    split <;> omega
  rw [e]
  exact wpAny_pure h
theorem pick_rev (xs : Array Value) : ((List.range xs.size).filterMap fun (m : Nat) => xs[(((xs.size : Int) - 1) + (m : Int) * (-1)).toNat]?).toArray = xs.toList.reverse.toArray := by
  have e : (fun (m : Nat) => xs[(((xs.size : Int) - 1) + (m : Int) * (-1)).toNat]?) = (fun k => xs[k]?) ∘ fun m => xs.size - 1 - m := by
    funext m
    have : (((xs.size : Int) - 1) + (m : Int) * (-1)).toNat = xs.size - 1 - m := by omega
    rw [this]
    rfl
  rw [e, ← List.filterMap_map, PySem.W.krv_range, List.filterMap_reverse, PySem.W.krv_all]
theorem getItem_tuple_rev {t sl : Addr} {items : Array Value} {vs : Value} {Q : Value → Shared → Prop} (ht : IsTup s.heap t items) (hs : s.heap.IsSliceOf sl .none .none vs) (ps : IsPart vs (some (-1)))
    (h : Q (.ref s.heap.objs.size) { s with heap := s.heap.push { cls := .type "tuple", data := .seq items.toList.reverse.toArray } })
    (hsz : items.size ≤ sizeLine) : wpAny (model prog w) A (getItem (.ref t) (.ref sl)) Q E s := by
  have htake : sizeOk (.seq items.toList.reverse.toArray) := by
    show items.toList.reverse.toArray.size ≤ sizeLine
    rw [List.size_toArray, List.length_reverse, Array.length_toList]
    exact hsz
  obtain ⟨os, hos, hcs, hds⟩ := id hs
  have hTs : s.TypeIs (.ref sl) "slice" := ⟨os, hos, hcs⟩
  unfold getItem
  try with_reducible refine wpAny_holding ?_
  first | refine wpAny_bind (wpAny_pure ?_) | skip
  refine wpAny_bind (wpAny_sequenceKey ht.typeIs (by decide) ?_)
  refine wpAny_bind (wpAny_callSpecial?_slot (name := Str.ofString "__getitem__") ht.typeIs PyProof.Rows.slot_tuple_getitem
    (wpAny_call_entry PyProof.Rows.slot_tuple_getitem ht.typeIs entry_tuple_getitem ?_ (args_tuple_getitem _ _)))
  show wpAny _ _ (Builtin.Tuple.tupleItemsOf (.ref t) >>= _) _ _ s
  refine wpAny_bind (tupleItemsOf_ ht ?_)
  refine wpAny_bind (wpAny_typeOf hTs ?_)
  rw [if_pos (by decide)]
  refine wpAny_bind (sliceApplied_rev hs ps ?_)
  have hno : ¬ ((((items.size : Int) - 1) == 0 && (-1 : Int) == 1 && items.size == items.size) = true) := by
    intro q
    rw [Bool.and_eq_true, Bool.and_eq_true] at q
    exact absurd q.1.2 (by decide)
  show wpAny _ _ (if (((items.size : Int) - 1) == 0 && (-1 : Int) == 1 && items.size == items.size) = true then _ else _) _ _ s
  rw [if_neg hno, pick_rev]
  first
    | exact wpAny_bind (m := Builtin.Tuple.tupleExact _) (wpAny_newObj_type (wpAny_pure ⟨_, rfl, wpAny_pure h⟩) htake)
    | exact wpAny_bind (m := Builtin.Tuple.tupleExact _) (wpAny_newObj_type (wpAny_bind (wpAny_pure (wpAny_pure ⟨_, rfl, wpAny_pure h⟩))) htake)
    | exact wpAny_bind (wpAny_bind (m := Builtin.Tuple.tupleExact _) (wpAny_newObj_type (wpAny_pure (wpAny_pure ⟨_, rfl, wpAny_pure h⟩)) htake))
    | exact wpAny_bind (wpAny_bind (m := Builtin.Tuple.tupleExact _) (wpAny_newObj_type (wpAny_pure ⟨_, rfl, wpAny_pure h⟩) htake))
end
section
variable {X : Cx} {W : Wd}
def tRevQ (K : PySem.W.Frag) (te : TE) : TE := fun σ H Q => te σ H fun x H1 => ∃ a xs, x = .ref a ∧ ((SqL K H1 a xs ∧ ∀ p, H1 p = none → Q (.ref p) (upd H1 p (.lst xs.reverse))) ∨ (SqT K H1 a xs ∧ ∀ p, H1 p = none → Q (.ref p) (upd H1 p (.tup xs.reverse))))
theorem pe_revQ {e : Expr} {te : TE} {k : Nat} {p1 p2 p3 pos : Pos} (he : PE X e te) : PE X (.Subscript e (.Slice none none (some (.UnaryOp .USub (.Constant (.int 1) k p1) p2)) p3) pos) (tRevQ X.K te) := by
  refine ⟨fun pins s σ H Q I h => ?_⟩
  refine Subscript_ (thn (he.run pins s σ H _ I h) fun v s1 ⟨x, H1, I1, r1, q1⟩ => ?_)
  obtain ⟨a, xs, ex, hq⟩ := q1
  subst ex
  cases r1
  have hst : PO X (some (.UnaryOp .USub (.Constant (.int 1) k p1) p2)) (tPart (tUn (rU fun i => .int (-i)) (tC (.int 1)))) := po_some (pe_un un_neg pe_int)
  refine wpAny_Slice (thn (po_none.run pins s1 σ H1 (fun o H2 => o = none ∧ H2 = H1) I1 ⟨rfl, rfl⟩) fun vl s2 ⟨l, H2, I2, pl, el, e2⟩ => ?_)
  subst el e2
  refine thn (po_none.run pins s2 σ H2 (fun o H3 => o = none ∧ H3 = H2) I2 ⟨rfl, rfl⟩) fun vu s3 ⟨u, H3, I3, pu, eu, e3⟩ => ?_
  subst eu e3
  refine thn (hst.run pins s3 σ H3 (fun o H4 => o = some (-1) ∧ H4 = H3) I3 ⟨1, rfl, -1, rfl, rfl, rfl⟩) fun vs s4 ⟨o, H4, I4, ps, eo, e4⟩ => ?_
  subst eo e4
  have I5 : Inv X pins σ H4 { s4 with heap := s4.heap.push { cls := .type "slice", data := .fields #[vl, vu, vs] } } := I4.kept (t' := s4.toks) fun b ob q => Heap.get?_push_of_some _ q
  show wpAny (model X.prog X.w) X.A (subscriptTail e (.Slice none none (some (.UnaryOp .USub (.Constant (.int 1) k p1) p2)) p3) (.ref a) (.ref s4.heap.objs.size)) (EP X pins σ Q) X.xe { s4 with heap := s4.heap.push { cls := .type "slice", data := .fields #[vl, vu, vs] } }
  rcases hq with ⟨hx, q⟩ | ⟨hx, q⟩
  · obtain ⟨its, r, ht, hz⟩ := I5.list hx
    have hlen := r.length
    refine tail_any (ops := [.ref a, .ref s4.heap.objs.size]) ht.isList.typeIs (PySem.slot_list_getitem.lookup) ?_ (by with_unfolding_all rfl)
    refine wpAny_getItem_list_slice ht.isList (Heap.IsSliceOf.new _ vl vu vs) pl pu ps (by decide) ?_ (by rw [List.size_toArray]; omega)
    rw [PySem.W.krv_pick]
    refine ⟨.ref _, _, I5.laid (t' := s4.toks) (o := .lst xs.reverse) (fun b ob q => Heap.get?_push_of_some _ q) (Nat.le_refl _) ?_, rfl, q _ (I5.hok.fresh (Nat.le_refl _))⟩
    exact ⟨by rw [List.length_reverse]; exact hz, _, 0, r.reverse, Heap.get?_push_size _ rfl⟩
  · obtain ⟨its, r, ht, hz⟩ := I5.tuple hx
    have hlen := r.length
    cases pl
    cases pu
    refine tail_any (ops := [.ref a, .ref s4.heap.objs.size]) ht.typeIs (PyProof.Rows.slot_tuple_getitem.lookup) ?_ (by with_unfolding_all rfl)
    refine getItem_tuple_rev ht (Heap.IsSliceOf.new _ .none .none vs) ps ?_ (by rw [List.size_toArray]; omega)
    refine ⟨.ref _, _, I5.laid (t' := s4.toks) (o := .tup xs.reverse) (fun b ob q => Heap.get?_push_of_some _ q) (Nat.le_refl _) ?_, rfl, q _ (I5.hok.fresh (Nat.le_refl _))⟩
    exact ⟨by rw [List.length_reverse]; exact hz, _, r.reverse, IsTup.new _ _⟩
def dRev : D → Option D
  | .tup xs => some (.tup xs.reverse)
  | .lst xs => some (.lst xs.reverse)
  | _ => none
theorem Dens.rev {K : PySem.W.Frag} {W : Wd} {dr : Option Addr} {F : Hp} : ∀ {vs : List V} {ds : List D}, Dens K W dr F vs ds → Dens K W dr F vs.reverse ds.reverse
  | _, _, .nil => .nil
  | _, _, .cons h1 h2 => by
    rw [List.reverse_cons, List.reverse_cons]
    exact Dens.append (Dens.rev h2) (.cons h1 .nil)
theorem d_rev {e : Expr} {f : EX} {k : Nat} {p1 p2 p3 pos : Pos} (he : PD X W e f) : PD X W (.Subscript e (.Slice none none (some (.UnaryOp .USub (.Constant (.int 1) k p1) p2)) p3) pos) (e1 dRev f) := imp_E (pe_revQ he) fun σ H Q ⟨fr, F, ρ, n, d, n', R, ev, k⟩ => by
  obtain ⟨y, n1, h1, h2⟩ := M.bind_ok ev
  obtain ⟨h3, h4⟩ := M.opt_ok h2
  subst h4
  refine ⟨fr, F, ρ, n, y, _, R, h1, fun F1 H1 v R1 s1 d1 => ?_⟩
  unfold dRev at h3
  split at h3
  · cases h3
    cases d1 with
    | tup g1 g2 => exact ⟨_, _, rfl, .inr ⟨R1.core.sub.sqT g1, put_tup R1 g2.rev fun F' H' v R' s' d' => k F' H' v R' (s1.trans s') d'⟩⟩
  · cases h3
    cases d1 with
    | lst g1 g2 => exact ⟨_, _, rfl, .inl ⟨SqL.of (R1.core.sub _ _ g1), put_lst R1 g2.rev fun F' H' v R' s' d' => k F' H' v R' (s1.trans s') d'⟩⟩
  · cases h3
end
end DL
end

section
set_option Elab.async false
set_option linter.all false
set_option autoImplicit false
set_option maxRecDepth 100000
namespace DL
open PySem PySem.Spec L2 PyProof.Rows
/-! ### reading a dict -/
def keyD : D → Option Key
  | .int i => some (.inl i)
  | .str x => some (.inr x)
  | _ => none
theorem key_of {K : PySem.W.Frag} {W : Wd} {dr : Option Addr} {F : Hp} {v : V} {d : D} {k : Key} (h : Den K W dr F v d) (e : keyD d = some k) : v = kV k := by
  unfold keyD at e
  split at e
  · cases e; cases h; rfl
  · cases e; cases h; rfl
  · cases e
section
variable {κ : Type} [DecidableEq κ]
def valD : List κ → List D → κ → Option D
  | x :: xs, d :: ds, k => if x = k then some d else valD xs ds k
  | _, _, _ => none
theorem val_zip {K : PySem.W.Frag} {W : Wd} {dr : Option Addr} {F : Hp} {k : κ} {d : D} : ∀ {ks : List κ} {us : List V} {ds : List D}, ks.length = us.length → Dens K W dr F us ds → valD ks ds k = some d → ∃ v, valV (ks.zip us) k = some v ∧ Den K W dr F v d
  | [], _, _, _, _, h => by cases h
  | x :: xs, [], _, l, _, h => by cases l
  | x :: xs, u :: us, _, l, .cons h1 h2, h => by
    unfold valD at h
    split at h
    · rename_i q
      cases h
      exact ⟨u, by rw [List.zip_cons_cons]; exact valV_pos q, h1⟩
    · rename_i q
      obtain ⟨v, e1, e2⟩ := val_zip (ks := xs) (by simpa using l) h2 h
      exact ⟨v, by rw [List.zip_cons_cons, valV_neg q]; exact e1, e2⟩
def dkKs (ks : List κ) (k : κ) : List κ := if (ks.any fun x => decide (x = k)) = true then ks else ks ++ [k]
def dkDs {α : Type} (ks : List κ) (ds : List α) (k : κ) (d : α) : List α := if (ks.any fun x => decide (x = k)) = true then List.zipWith (fun x e => if x = k then d else e) ks ds else ds ++ [d]
theorem any_zip {k : κ} : ∀ {ks : List κ} {us : List V}, ks.length = us.length → ((ks.zip us).any fun kv => decide (kv.1 = k)) = ks.any fun x => decide (x = k)
  | [], _, _ => by simp
  | x :: xs, [], l => by cases l
  | x :: xs, u :: us, l => by
    rw [List.zip_cons_cons, List.any_cons, List.any_cons, any_zip (ks := xs) (by simpa using l)]
theorem map_zip {k : κ} {v : V} : ∀ {ks : List κ} {us : List V}, ks.length = us.length → (ks.zip us).map (fun kv => if kv.1 = k then (kv.1, v) else kv) = ks.zip (List.zipWith (fun x e => if x = k then v else e) ks us)
  | [], _, _ => by simp
  | x :: xs, [], l => by cases l
  | x :: xs, u :: us, l => by
    rw [List.zip_cons_cons, List.map_cons, List.zipWith_cons_cons, List.zip_cons_cons, map_zip (ks := xs) (by simpa using l)]
    split <;> rfl
theorem put_zip {k : κ} {v : V} {ks : List κ} {us : List V} (l : ks.length = us.length) : putK (ks.zip us) k v = (dkKs ks k).zip (dkDs ks us k v) := by
  unfold putK dkKs dkDs
  rw [any_zip l]
  split
  · exact map_zip l
  · rw [List.zip_append l]; rfl
theorem put_len {α : Type} {k : κ} {v : α} {ks : List κ} {us : List α} (l : ks.length = us.length) : (dkKs ks k).length = (dkDs ks us k v).length := by
  unfold dkKs dkDs
  split
  · simp [l]
  · simp [l]
theorem put_dens {K : PySem.W.Frag} {W : Wd} {dr : Option Addr} {F : Hp} {k : κ} {v : V} {d : D} (hv : Den K W dr F v d) : ∀ {ks : List κ} {us : List V} {ds : List D}, Dens K W dr F us ds → Dens K W dr F (List.zipWith (fun x e => if x = k then v else e) ks us) (List.zipWith (fun x e => if x = k then d else e) ks ds)
  | [], _, _, _ => by simp; exact .nil
  | x :: xs, _, _, .nil => by simp; exact .nil
  | x :: xs, _, _, .cons h1 h2 => by
    rw [List.zipWith_cons_cons, List.zipWith_cons_cons]
    refine .cons ?_ (put_dens hv h2)
    split
    · exact hv
    · exact h1
theorem dkDs_dens {K : PySem.W.Frag} {W : Wd} {dr : Option Addr} {F : Hp} {k : κ} {v : V} {d : D} {ks : List κ} {us : List V} {ds : List D} (hv : Den K W dr F v d) (h : Dens K W dr F us ds) : Dens K W dr F (dkDs ks us k v) (dkDs ks ds k d) := by
  unfold dkDs
  split
  · exact put_dens hv h
  · exact h.append (.cons hv .nil)
end
def dIxA (x y : D) : Option D := match x with
  | .dic ks ds => (match keyD y with | some k => valD ks ds k | none => none)
  | _ => dIx x y
section
variable {X : Cx} {W : Wd} {a b : Expr} {fa fb : EX} {pos : Pos}
def rIxDG : R2 := fun x y H Q => ∃ a v, x = .ref a ∧ DGet H a y (some v) ∧ Q v H
theorem ix_dict (hu : X.A.units + 1 < cLine) : IxR X rIxDG := by
  intro value slice pins s σ H x y v u Q I rx ry h hs
  obtain ⟨a, w, rfl, g, q⟩ := h
  cases rx
  exact tail_any (dict_typeIs I g) PySem.F.slot_dict_getitem.lookup (d_getItem hu I g ry fun w' s3 I3 rw' => ⟨w, H, I3, rw', q⟩) hs
theorem q_ixA {K : PySem.W.Frag} : Op2 K W (fun x y H Q => rIx K x y H Q ∨ rIxDG x y H Q) dIxA := by
  intro fr F H σ ρ n x y d v u Q R dx dy h k
  unfold dIxA at h
  split at h
  · rename_i ks ds
    cases q : keyD y with
    | none => rw [q] at h; cases h
    | some key =>
      rw [q] at h
      have hk := key_of dy q
      subst hk
      cases dx with
      | dic l h1 h2 =>
        obtain ⟨w, e1, e2⟩ := val_zip l h2 h
        exact .inr ⟨_, w, rfl, .inl ⟨_, key, R.core.sub.rd h1, rfl, e1.symm⟩, k F H w R (Sub.refl _) e2⟩
  · exact .inl (q_ix fr F H σ ρ n x y d v u Q R dx dy h k)
theorem d_ixA (hu : X.A.units + 64 < cLine) (ha : PD X W a fa) (hb : PD X W b fb) (hs : PlainIx b := by exact fun _ _ => rfl) : PD X W (.Subscript a b pos) (e2 dIxA fa fb) :=
  imp_E (pe_ix (ix_seq.or (ix_dict (by omega))) ha hb hs) fun _ _ _ h => d_tOp q_ixA h
/-! ### a store in an own dict -/
def dPut (kd : D × D) : D → Option D
  | .dic ks ds => (match keyD kd.1 with
    | some k => if ks.length < sizeLine then some (.dic (dkKs ks k) (dkDs ks ds k kd.2)) else none
    | none => none)
  | _ => none
def sPut (i : Nat) (fk fv : EX) : SX := fun ρ => M.bind (fv ρ) fun d => M.bind (fk ρ) fun k => M.bind (M.opt ((own? ρ i).bind (dPut (k, d)))) fun o => M.pure (.nx (ρ.set i (.own o)))
theorem S_dput {i : Nat} {o ie value : Expr} {fk fv : EX} {p2 : Pos} (hu : X.A.units + 64 < cLine) (ho : PE X o (tVar i)) (hk : PD X W ie fk) (hv : PD X W value fv) (hs : swapsWith value (some (.Subscript o ie p2)) pos.line X.env = pure false := by rfl) :
    PDS X W (.Assign [.Subscript o ie p2] value pos) (sPut i fk fv) := imp_S (ps_dput (by omega) ho hk hv hs) fun E σ H ⟨fr, F, ρ, n, o, n', R, e, k⟩ => by
  obtain ⟨d, n1, e1, h1⟩ := M.bind_ok e
  obtain ⟨kd, n2, e2, h2⟩ := M.bind_ok h1
  obtain ⟨dd, n3, e3, h3⟩ := M.bind_ok h2
  obtain ⟨e4, e5⟩ := M.opt_ok e3
  obtain ⟨e6, e7⟩ := M.pure_ok h3
  subst e5 e6 e7
  cases q : own? ρ i with
  | none => rw [q] at e4; cases e4
  | some od =>
    rw [q] at e4
    have e4 : dPut (kd, d) od = some dd := e4
    have hi := own_some q
    unfold dPut at e4
    split at e4
    · rename_i dd0 ks ds ehi
      cases qk : keyD kd with
      | none => rw [qk] at e4; cases e4
      | some key =>
        rw [qk] at e4
        have e4 : (if ks.length < sizeLine then some (D.dic (dkKs ks key) (dkDs ks ds key d)) else none) = some dd := e4
        split at e4
        · rename_i hl
          cases e4
          refine ⟨fr, F, ρ, n, d, n1, R, e1, fun F1 H1 v R1 s1 d1 => ?_⟩
          obtain ⟨ad0, s0⟩ := R1.slots
          obtain ⟨z1, _⟩ := s0.own i _ hi
          refine ⟨_, z1, fr, F1, ρ, n1, kd, _, R1, e2, fun F2 H2 u R2 s2 d2 => ?_⟩
          obtain ⟨ad, s⟩ := R2.slots
          obtain ⟨a1, a2, a3, a4, ⟨us, a5, a6, a7⟩, a8⟩ := s.own i _ hi
          have ea : ad i = ad0 i := by rw [a1] at z1; injection z1 with z1; injection z1 with z1; injection z1
          have hu := key_of d2 qk
          subst hu
          have d1' := d1.mono s2 fun _ z => z
          refine ⟨ad i, _, by rw [ea], .inl ⟨_, key, a6, rfl, by rw [List.length_zip, a5, Nat.min_self, ← a5]; exact hl, rfl⟩, ?_⟩
          rw [put_zip a5]
          exact k F2 _ _ (R2.change s hi ⟨_, put_len a5, upd_same, dkDs_dens d1' a7⟩ rfl) (s1.trans s2)
        · cases e4
    · cases e4
end
end DL
end

section
set_option Elab.async false
set_option linter.all false
set_option autoImplicit false
set_option maxRecDepth 100000
namespace DL
open PySem PySem.Spec L2 PyProof.Rows
section
variable {X : Cx} {W : Wd} {a b e : Expr} {fa fb f : EX} {pos : Pos}
/-! ### list(d) -/
def rListR : List V → Hp → VK → Prop := fun xs H Q => ∃ p kvs, xs = [.ref p] ∧ Rd H p (.dK kvs) ∧ ∀ q, H q = none → Q (.ref q) (upd H q (.lst (kvs.map fun kv => kV kv.1)))
theorem call_list_dR (hc : X.calm = true) : CallR X (.type "list") rListR := by
  intro pins s σ H xs us Q I r h
  obtain ⟨p, kvs, e, hk, q⟩ := h
  subst e
  obtain ⟨u, eu, rx⟩ := vals1 r
  subst eu
  obtain rfl : u = Value.ref p := rx
  obtain ⟨z, lo, vs, rk, hd⟩ := dk_rd I.hok hk
  obtain ⟨ep, hat⟩ := hd.dictAt
  have hl : kvs.length = vs.length := Paired.length rk
  refine PySem.W.kdl_call (PySem.W.kdl_dict (knd := mixKind X.prog X.w) (kvs := vs) (ep := ep) lo) (I.ok.hd hc) hat (by rw [← hl]; exact z) fun h' tk acc' c' hkeep hS hacc => ?_
  refine ⟨.ref s.heap.objs.size, upd H s.heap.objs.size (.lst (kvs.map fun kv => kV kv.1)), I.laid hkeep (Nat.le_refl _) (show ObjOk X.prog X.w _ _ _ (.lst (kvs.map fun kv => kV kv.1)) from ⟨?_, acc'.toList, c', ?_, ?_⟩), rfl, q _ (I.hok.fresh (Nat.le_refl _))⟩
  · rw [List.length_map]; exact z
  · have el : acc'.toList.length = acc'.size := by simp
    refine vals_of_at (by rw [List.length_map, el, hacc.1, hl]) fun j x w h1 h2 => ?_
    obtain ⟨k, y, hky, hi⟩ := hacc.2 j w (by rw [← Array.getElem?_toList]; exact h2)
    have e1 : (kvs.map (·.1))[j]? = some k := by
      rw [KV.keys rk, List.getElem?_map, hky] <;> rfl
    have e2 : (kvs.map fun kv => kV kv.1)[j]? = some (kV k) := by
      have e3 : (kvs.map fun kv => kV kv.1) = (kvs.map (·.1)).map kV := by rw [List.map_map] <;> rfl
      rw [e3, List.getElem?_map, e1] <;> rfl
    rw [e2] at h1
    cases h1
    exact keyIs_rel hi
  · rw [Array.toArray_toList]; exact hS
def kD : Key → D
  | .inl i => .int i
  | .inr x => .str x
def dLstA : List D → Option D
  | [.dic ks _] => some (.lst (ks.map kD))
  | xs => dLstOf xs
theorem dens_keys {K : PySem.W.Frag} {dr : Option Addr} {F : Hp} : ∀ {ks : List Key} {us : List V}, ks.length = us.length → Dens K W dr F ((ks.zip us).map fun kv => kV kv.1) (ks.map kD)
  | [], _, _ => by simp; exact .nil
  | k :: ks, [], l => by cases l
  | k :: ks, u :: us, l => by
    rw [List.zip_cons_cons, List.map_cons, List.map_cons]
    refine .cons ?_ (dens_keys (by simpa using l))
    cases k with
    | inl i => exact .int i
    | inr x => exact .str x
theorem q_lstA {K : PySem.W.Frag} : CallD K W (fun xs H Q => (∃ p ys, xs = [.ref p] ∧ (SqL K H p ys ∨ SqT K H p ys) ∧ ∀ l, H l = none → Q (.ref l) (upd H l (.lst ys))) ∨ rListR xs H Q) dLstA := by
  intro fr F H σ ρ n xs d vs Q R dx h k
  unfold dLstA at h
  split at h
  · cases h
    cases dx with
    | cons h1 h2 =>
      cases h2
      cases h1 with
      | dic l h3 h4 => exact .inr ⟨_, _, rfl, R.core.sub.rd h3, put_lst R (dens_keys l) k⟩
  · exact .inl (q_lstOf fr F H σ ρ n xs d vs Q R dx h k)
theorem call_listA (hc : X.calm = true) : CallR X (.type "list") (fun xs H Q => (∃ p ys, xs = [.ref p] ∧ (SqL X.K H p ys ∨ SqT X.K H p ys) ∧ ∀ l, H l = none → Q (.ref l) (upd H l (.lst ys))) ∨ rListR xs H Q) := call_list_of.or (call_list_dR hc)
/-! ### texts in order -/
def dCA (p : Int → Int → Bool) (q : Str → Str → Bool) : D → D → Option D
  | .int i, .int j => some (.bl (p i j))
  | .str i, .str j => some (.bl (q i j))
  | _, _ => none
def dLeA : D → D → Option D := dCA (fun i j => decide (i ≤ j)) fun i j => !decide (j.cps.toList < i.cps.toList)
def rCA (p : Int → Int → Bool) (q : Str → Str → Bool) : R2 := fun x y H Q => rI0 (fun i j => .bl (p i j)) x y H Q ∨ ∃ i j, x = .str i ∧ y = .str j ∧ Q (.bl (q i j)) H
theorem q_CA {K : PySem.W.Frag} (p : Int → Int → Bool) (q : Str → Str → Bool) : Op2 K W (rCA p q) (dCA p q) := by
  intro fr F H σ ρ n x y d v u Q R dx dy h k
  unfold dCA at h
  split at h
  · cases dx; cases dy; cases h
    exact .inl ⟨_, _, rfl, rfl, k F H _ R (Sub.refl _) (.bl _)⟩
  · cases dx; cases dy; cases h
    exact .inr ⟨_, _, rfl, rfl, k F H _ R (Sub.refl _) (.bl _)⟩
  · cases h
theorem d_leA (ha : PD X W a fa) (hb : PD X W b fb) : PD X W (.Compare a [.LtE] [b] pos) (e2 dLeA fa fb) := d_cmp (op_le.or op_le_str) (q_CA _ _) ha hb (nomark _)
theorem t_leA (ha : PD X W a fa) (hb : PD X W b fb) : PDT X W (.Compare a [.LtE] [b] pos) (tB (e2 dLeA fa fb)) := t_cmp (op_le.or op_le_str) (q_CA _ _) ha hb (nomark _)
/-! ### x.split(y) -/
def dSplit : D → D → Option D
  | .str x, .str y => if (y.length == 0) = false ∧ x.length + 2 ≤ sizeLine ∧ (Txt.split x y).length ≤ sizeLine then some (.lst ((Txt.split x y).map .str)) else none
  | _, _ => none
theorem dens_strs {K : PySem.W.Frag} {dr : Option Addr} {F : Hp} : ∀ ys : List Str, Dens K W dr F (ys.map V.str) (ys.map D.str)
  | [] => .nil
  | y :: ys => .cons (.str y) (dens_strs ys)
theorem d_split {apos : Pos} (ha : PD X W a fa) (hb : PD X W b fb) (hs : starEach [b] X.env = [(false, eval b X.env)] := by rfl) (hbase : attributeBase a "split" X.env (eval a X.env) = eval a X.env := by rfl) (hline : (apos.endLine == pos.line) = true := by rfl) :
    PD X W (.Call (.Attribute a "split" apos) [b] [] pos) (e2 dSplit fa fb) := imp_E (pe_split ha hb hs hbase hline) fun σ H Q ⟨fr, F, ρ, n, d, n', R, ev, k⟩ => by
  obtain ⟨x, n1, h1, h2⟩ := M.bind_ok ev
  obtain ⟨y, n2, h3, h4⟩ := M.bind_ok h2
  obtain ⟨h5, h6⟩ := M.opt_ok h4
  subst h6
  unfold dSplit at h5
  split at h5
  · split at h5
    · rename_i x y q
      cases h5
      refine ⟨fr, F, ρ, n, _, n1, R, h1, fun F1 H1 v R1 s1 d1 => ?_⟩
      cases d1
      refine ⟨⟨_, rfl⟩, fr, F1, ρ, n1, _, _, R1, h3, fun F2 H2 u R2 s2 d2 => ?_⟩
      cases d2
      exact ⟨x, y, rfl, rfl, q.1, q.2.1, put_lst R2 (dens_strs _) fun F' H' v R' s' d' => k F' H' v R' ((s1.trans s2).trans s') d'⟩
    · cases h5
  · cases h5
end
end DL
end

section
set_option Elab.async false
set_option linter.all false
set_option autoImplicit false
set_option maxRecDepth 100000
namespace DL
open PySem PySem.Spec L2 PyProof.Rows
section
variable {α : Type}
def ins (le : α → α → Bool) (x : α) : List α → List α
  | [] => [x]
  | y :: r => if le x y = true then x :: y :: r else y :: ins le x r
def srt (le : α → α → Bool) : List α → List α
  | [] => []
  | x :: r => ins le x (srt le r)
theorem ins_perm (le : α → α → Bool) (x : α) : ∀ l : List α, (ins le x l).Perm (x :: l)
  | [] => .refl _
  | y :: r => by
    unfold ins
    split
    · exact .refl _
    · exact ((ins_perm le x r).cons y).trans (.swap x y r)
theorem srt_perm (le : α → α → Bool) : ∀ l : List α, (srt le l).Perm l
  | [] => .refl _
  | x :: r => (ins_perm le x _).trans ((srt_perm le r).cons x)
theorem ins_sorted {le : α → α → Bool} (tot : ∀ x y, le x y = true ∨ le y x = true) (tr : ∀ x y z, le x y = true → le y z = true → le x z = true) (x : α) : ∀ l : List α, l.Pairwise (fun a b => le a b = true) → (ins le x l).Pairwise (fun a b => le a b = true)
  | [], _ => List.pairwise_singleton ..
  | y :: r, h => by
    unfold ins
    rw [List.pairwise_cons] at h
    split
    · rename_i q
      refine List.pairwise_cons.mpr ⟨fun z hz => ?_, List.pairwise_cons.mpr h⟩
      rcases List.mem_cons.mp hz with e | e
      · rw [e]; exact q
      · exact tr _ _ _ q (h.1 z e)
    · rename_i q
      refine List.pairwise_cons.mpr ⟨fun z hz => ?_, ins_sorted tot tr x r h.2⟩
      rcases List.mem_cons.mp ((ins_perm le x r).mem_iff.mp hz) with e | e
      · rw [e]
        rcases tot x y with t | t
        · exact absurd t q
        · exact t
      · exact h.1 z e
theorem srt_sorted {le : α → α → Bool} (tot : ∀ x y, le x y = true ∨ le y x = true) (tr : ∀ x y z, le x y = true → le y z = true → le x z = true) : ∀ l : List α, (srt le l).Pairwise (fun a b => le a b = true)
  | [] => .nil
  | x :: r => ins_sorted tot tr x _ (srt_sorted tot tr r)
theorem perm_uniq {R : α → α → Prop} (anti : ∀ x y, R x y → R y x → x = y) : ∀ {l m : List α}, l.Pairwise R → m.Pairwise R → l.Perm m → l = m
  | [], m, _, _, p => by rw [List.Perm.nil_eq p]
  | x :: l, [], _, _, p => absurd p.symm.nil_eq (by simp)
  | x :: l, y :: m, h, h', p => by
    rw [List.pairwise_cons] at h h'
    have e : x = y := by
      rcases List.mem_cons.mp (p.mem_iff.mp List.mem_cons_self) with e | e
      · exact e
      · rcases List.mem_cons.mp (p.mem_iff.mpr List.mem_cons_self) with e' | e'
        · exact e'.symm
        · exact anti _ _ (h.1 y e') (h'.1 x e)
    subst e
    rw [perm_uniq anti h.2 h'.2 (List.Perm.cons_inv p)]
end
def leS (x y : Str) : Bool := !ltCps y.cps.toList x.cps.toList
def leZ (x y : Int) : Bool := decide (x ≤ y)
theorem leS_iff (x y : Str) : leS x y = true ↔ x.cps.toList ≤ y.cps.toList := by
  unfold leS
  rw [ltCps_eq]
  simp
theorem leS_tot (x y : Str) : leS x y = true ∨ leS y x = true := by
  rw [leS_iff, leS_iff]; exact List.le_total _ _
theorem leS_tr (x y z : Str) (h : leS x y = true) (h' : leS y z = true) : leS x z = true := by
  rw [leS_iff] at *; exact List.le_trans h h'
theorem leS_anti (x y : Str) (h : leS x y = true) (h' : leS y x = true) : x = y := by
  rw [leS_iff] at *
  have := List.le_antisymm h h'
  cases x; cases y
  simp at this
  rw [this]
theorem rising_pw : ∀ (x : Str) (r : List Str), risingS x r = true → (x :: r).Pairwise (fun a b => leS a b = true)
  | x, [], _ => List.pairwise_singleton ..
  | x, y :: r, h => by
    have h' : (!ltCps y.cps.toList x.cps.toList && risingS y r) = true := h
    rw [Bool.and_eq_true] at h'
    have ih := rising_pw y r h'.2
    refine List.pairwise_cons.mpr ⟨fun z hz => ?_, ih⟩
    rcases List.mem_cons.mp hz with e | e
    · rw [e]; exact h'.1
    · exact leS_tr _ _ _ h'.1 ((List.pairwise_cons.mp ih).1 z e)
theorem sortedS_pw {l : List Str} (h : sortedS l = true) : l.Pairwise (fun a b => leS a b = true) := by
  cases l with
  | nil => exact .nil
  | cons x r => exact rising_pw x r h
def strsD : List D → Option (List Str)
  | [] => some []
  | .str x :: r => (match strsD r with | some l => some (x :: l) | none => none)
  | _ :: _ => none
def intsD : List D → Option (List Int)
  | [] => some []
  | .int x :: r => (match intsD r with | some l => some (x :: l) | none => none)
  | _ :: _ => none
theorem strsD_ok {K : PySem.W.Frag} {W : Wd} {dr : Option Addr} {F : Hp} : ∀ {vs : List V} {ds : List D} {l : List Str}, Dens K W dr F vs ds → strsD ds = some l → vs = l.map V.str
  | _, _, _, .nil, h => by cases h; rfl
  | _, d :: ds, _, .cons h1 h2, h => by
    unfold strsD at h
    split at h
    · rename_i e
      cases e
    · rename_i x r e
      cases e
      split at h
      · rename_i l q
        cases h
        cases h1
        rw [strsD_ok h2 q]; rfl
      · cases h
    · cases h
theorem intsD_ok {K : PySem.W.Frag} {W : Wd} {dr : Option Addr} {F : Hp} : ∀ {vs : List V} {ds : List D} {l : List Int}, Dens K W dr F vs ds → intsD ds = some l → vs = l.map V.int
  | _, _, _, .nil, h => by cases h; rfl
  | _, d :: ds, _, .cons h1 h2, h => by
    unfold intsD at h
    split at h
    · rename_i e
      cases e
    · rename_i x r e
      cases e
      split at h
      · rename_i l q
        cases h
        cases h1
        rw [intsD_ok h2 q]; rfl
      · cases h
    · cases h
def dSorted : List D → Option D
  | [.lst ds] => (match strsD ds with
    | some l => if l.length < 64 then some (.lst ((srt leS l).map .str)) else none
    | none => (match intsD ds with
      | some l => some (.lst ((srt leZ l).map .int))
      | none => none))
  | _ => none
section
variable {X : Cx} {W : Wd}
theorem dens_ints {K : PySem.W.Frag} {dr : Option Addr} {F : Hp} : ∀ ys : List Int, Dens K W dr F (ys.map V.int) (ys.map D.int)
  | [] => .nil
  | y :: ys => .cons (.int y) (dens_ints ys)
theorem call_sortedA : CallR X (.builtin "sorted") (fun xs H Q => rSortedS X.K xs H Q ∨ rSortedI X.K xs H Q) := cr_sortedS.or cr_sortedI
theorem q_sorted {K : PySem.W.Frag} : CallD K W (fun xs H Q => rSortedS K xs H Q ∨ rSortedI K xs H Q) dSorted := by
  intro fr F H σ ρ n xs d vs Q R dx h k
  unfold dSorted at h
  split at h
  · rename_i ds
    cases dx with
    | cons h1 h2 =>
      cases h2
      cases h1 with
      | lst h3 h4 =>
        split at h
        · rename_i l q
          split at h
          · rename_i hl
            cases h
            have e := strsD_ok h4 q
            subst e
            refine .inl ⟨_, l, rfl, SqL.of (R.core.sub _ _ h3), hl, fun ys p hp hs hn => ?_⟩
            have e : ys = srt leS l := perm_uniq leS_anti (sortedS_pw hs) (srt_sorted leS_tot leS_tr l) (hp.trans (srt_perm leS l).symm)
            rw [e]
            exact put_lst R (dens_strs _) k p hn
          · cases h
        · split at h
          · rename_i l q
            cases h
            have e := intsD_ok h4 q
            subst e
            refine .inr ⟨_, l, rfl, SqL.of (R.core.sub _ _ h3), fun ys p hp hs hn => ?_⟩
            have e : ys = srt leZ l := perm_uniq (R := fun a b : Int => leZ a b = true) (fun x y h h' => by have a := of_decide_eq_true h; have b := of_decide_eq_true h'; omega) (hs.imp fun h => decide_eq_true h) (srt_sorted (fun x y => by unfold leZ; simp; omega) (fun x y z h h' => by have a := of_decide_eq_true h; have b := of_decide_eq_true h'; exact decide_eq_true (by omega)) l) (hp.trans (srt_perm leZ l).symm)
            rw [e]
            exact put_lst R (dens_ints _) k p hn
          · cases h
  · cases h
end
end DL
end

section
set_option Elab.async false
set_option linter.all false
set_option autoImplicit false
set_option maxRecDepth 100000
namespace DL
open PySem PySem.Spec L2 PyProof.Rows
section
variable {X : Cx} {W : Wd} {a : Addr}
theorem call_list_kd {es : Array DictEntry} {n : Nat} {ks : List Str} (hc : X.calm = true) (D : KDict X.K X.w a es n) (hk : es.toList.map He.keyOf = He.keysIn X.w.params ks) (hz : ks.length ≤ 1000) :
    CallR X (.type "list") (fun xs H Q => xs = [.ref a] ∧ ∀ q, H q = none → Q (.ref q) (upd H q (.lst (ks.map V.str)))) := by
  intro pins s σ H xs us Q I r h
  obtain ⟨e, q⟩ := h
  subst e
  obtain ⟨u, eu, rx⟩ := vals1 r
  subst eu
  obtain rfl : u = Value.ref a := rx
  have hat := I.kIn _ _ D.at_
  have hl : es.size = ks.length := by
    have := congrArg List.length hk
    rw [List.length_map] at this
    unfold He.keysIn at this
    rw [List.length_map] at this
    simpa using this
  refine PySem.W.kdl_call (kdl_raw (o := ⟨.type "dict", none, .dict es n, #[]⟩) D.low ⟨rfl, rfl, rfl⟩ rfl) (I.ok.hd hc) hat (by rw [sizeLine_eq]; omega) fun h' tk acc' c' hkeep hS hacc => ?_
  refine ⟨.ref s.heap.objs.size, upd H s.heap.objs.size (.lst (ks.map V.str)), I.laid hkeep (Nat.le_refl _) (show ObjOk X.prog X.w _ _ _ (.lst (ks.map V.str)) from ⟨?_, acc'.toList, c', ?_, ?_⟩), rfl, q _ (I.hok.fresh (Nat.le_refl _))⟩
  · rw [List.length_map, sizeLine_eq]; omega
  · have el : acc'.toList.length = acc'.size := by simp
    refine vals_of_at (by rw [List.length_map, el, hacc.1, hl]) fun j x w h1 h2 => ?_
    obtain ⟨en, hen, hw⟩ := hacc.2 j w (by rw [← Array.getElem?_toList]; exact h2)
    have e1 : (es.toList.map He.keyOf)[j]? = some (He.keyOf en) := by
      rw [List.getElem?_map, Array.getElem?_toList, hen]; rfl
    rw [hk] at e1
    unfold He.keysIn at e1
    rw [List.getElem?_map] at h1 e1
    cases z : ks[j]? with
    | none => rw [z] at h1; cases h1
    | some k =>
      rw [z] at h1 e1
      cases h1
      have e2 : some (k, PyData.keyHash X.w.params k) = He.keyOf en := by injection e1
      unfold He.keyOf at e2
      split at e2
      · rename_i x t hx
        injection e2 with e2
        injection e2 with e2 e3
        subst hw
        exact ⟨t, by rw [hx, e2]⟩
      · cases e2
  · rw [Array.toArray_toList]; exact hS
/-- the table and its keys in their order -/
structure KTabs (K : PySem.W.Frag) (w : World) (W : Wd) (a : Addr) (tbl : List (Str × D)) : Prop extends KTab K w W a tbl where
  ord : ∃ (es : Array DictEntry) (n : Nat), KDict K w a es n ∧ es.toList.map He.keyOf = He.keysIn w.params (tbl.map (·.1))
  few : tbl.length ≤ 1000
theorem ktabs_of {K : PySem.W.Frag} {w : World} {W : Wd} {a : Addr} {tbl : List (Str × D)} (h1 : He.dicW K a = some (He.keysIn w.params (tbl.map (·.1)))) (h2 : tabDB K a tbl = true) (h3 : decide (tbl.length ≤ 1000) = true) : KTabs K w W a tbl := by
  refine ⟨ktab_of h1 h2, ?_, of_decide_eq_true h3⟩
  obtain ⟨es, n, T⟩ := He.dicW_ok h1
  refine ⟨es, n, T, ?_⟩
  unfold He.dicW at h1
  rw [T.at_] at h1
  simp [T.low] at h1
  exact h1
theorem d_lstK {x : Str} {tbl : List (Str × D)} {p p2 pos : Pos} (hc : X.calm = true) (T : KTabs X.K X.w W a tbl) (hgf : Gl X "list") (hmf : X.mg "list" = none) (hg : Gl X x) (hm : X.mg x = some (.ref a)) (hd : (x == ("__debug__" : Str)) = false := by decide)
    (he : starEach [.Name x p2] X.env = (false, eval (.Name x p2) X.env) :: starEach [] X.env := by rfl) (hpl : (backTo pos (starEach [] X.env)).any (·.1) = false := by rfl) :
    PD X W (.Call (.Name "list" p) [.Name x p2] [] pos) (eC (.lst (tbl.map fun q => .str q.1))) := by
  obtain ⟨es, n, kd, hk⟩ := T.ord
  refine imp_E (pe_callTy (call_list_kd hc kd hk (by rw [List.length_map]; exact T.few)) hgf hmf rfl (pa_cons (pe_glob (v := .ref a) hg hm rfl hd) pa_nil he) (by decide) (by decide) he hpl) fun σ H Q ⟨fr, F, ρ, n, d, n', R, ev, k⟩ => ?_
  obtain ⟨h1, h2⟩ := M.pure_ok ev
  subst h1 h2
  refine ⟨rfl, put_lst R ?_ k⟩
  have := dens_strs (K := X.K) (W := W) (dr := fr.dr) (F := F) (tbl.map (·.1))
  have e : (tbl.map fun q => DL.D.str q.1) = (tbl.map (·.1)).map DL.D.str := by rw [List.map_map]; rfl
  rw [e]
  exact this
/-- the same, where the dict stands is not told -/
def Tab (K : PySem.W.Frag) (w : World) (W : Wd) (mg : Str → Option Value) (x : Str) (tbl : List (Str × D)) : Prop := ∃ a : Addr, mg x = some (.ref a) ∧ KTabs K w W a tbl
theorem d_inT {x : Str} {tbl : List (Str × D)} {e : Expr} {f : EX} {p pos : Pos} (T : Tab X.K X.w W X.mg x tbl) (hg : Gl X x) (he : PD X W e f) (hd : (x == ("__debug__" : Str)) = false := by decide) (hb : behindInMarks .In (.Name x p) = false := by rfl) : PD X W (.Compare e [.In] [.Name x p] pos) (e1 (dInK tbl) f) :=
  T.elim fun a h => d_inK h.2.toKTab hg h.1 he hd hb
theorem d_niT {x : Str} {tbl : List (Str × D)} {e : Expr} {f : EX} {p pos : Pos} (T : Tab X.K X.w W X.mg x tbl) (hg : Gl X x) (he : PD X W e f) (hd : (x == ("__debug__" : Str)) = false := by decide) (hb : behindInMarks .NotIn (.Name x p) = false := by rfl) : PD X W (.Compare e [.NotIn] [.Name x p] pos) (e1 (dNiK tbl) f) :=
  T.elim fun a h => d_niK h.2.toKTab hg h.1 he hd hb
theorem d_ixT {x : Str} {tbl : List (Str × D)} {e : Expr} {f : EX} {p pos : Pos} (T : Tab X.K X.w W X.mg x tbl) (hg : Gl X x) (he : PD X W e f) (hd : (x == ("__debug__" : Str)) = false := by decide) (hs : PlainIx e := by exact fun _ _ => rfl) : PD X W (.Subscript (.Name x p) e pos) (e1 (dIxK tbl) f) :=
  T.elim fun a h => d_ixK h.2.toKTab hg h.1 he hd hs
theorem d_lstT {x : Str} {tbl : List (Str × D)} {p p2 pos : Pos} (hc : X.calm = true) (T : Tab X.K X.w W X.mg x tbl) (hgf : Gl X "list") (hmf : X.mg "list" = none) (hg : Gl X x) (hd : (x == ("__debug__" : Str)) = false := by decide)
    (he : starEach [.Name x p2] X.env = (false, eval (.Name x p2) X.env) :: starEach [] X.env := by rfl) (hpl : (backTo pos (starEach [] X.env)).any (·.1) = false := by rfl) :
    PD X W (.Call (.Name "list" p) [.Name x p2] [] pos) (eC (.lst (tbl.map fun q => .str q.1))) :=
  T.elim fun a h => d_lstK hc h.2 hgf hmf hg h.1 hd he hpl
end
end DL
namespace DL
open PySem PySem.Spec L2
theorem d_cint {X : Cx} {W : Wd} {x : Str} {pos : Pos} {i : Int} (hg : Gl X x) (h : ∃ t, X.mg x = some (.int i t)) (hd : (x == ("__debug__" : Str)) = false := by decide) : PD X W (.Name x pos) (eC (.int i)) :=
  h.elim fun t e => d_glob (v := .int i) hg e ⟨t, rfl⟩ (fun _ _ _ _ => .int _) hd
end DL
end

section
set_option Elab.async false
set_option linter.all false
set_option autoImplicit false
set_option maxRecDepth 100000
namespace DL
open PySem PySem.Spec L2 PyProof.Rows
def dIntA : List D → Option D
  | [.str a] => (match PySem.intText? a with
    | some n => if a.length ≤ 640 then some (.int n) else none
    | none => none)
  | xs => dInt xs
section
variable {X : Cx} {W : Wd}
def rIntT : List V → Hp → VK → Prop := fun xs H Q => ∃ a n, xs = [.str a] ∧ PySem.intText? a = some n ∧ a.length ≤ 640 ∧ Q (.int n) H
theorem call_intA : CallR X (.type "int") (fun xs H Q => ((∃ i, xs = [.int i] ∧ Q (.int i) H) ∨ ∃ k, xs = [.bl k] ∧ Q (.int (if k then 1 else 0)) H) ∨ rIntT xs H Q) := call_int1.or call_int_str
theorem q_intA {K : PySem.W.Frag} : CallD K W (fun xs H Q => ((∃ i, xs = [.int i] ∧ Q (.int i) H) ∨ ∃ k, xs = [.bl k] ∧ Q (.int (if k then 1 else 0)) H) ∨ rIntT xs H Q) dIntA := by
  intro fr F H σ ρ n xs d vs Q R dx h k
  unfold dIntA at h
  split at h
  · rename_i a
    cases q : PySem.intText? a with
    | none => rw [q] at h; cases h
    | some m =>
      rw [q] at h
      have h : (if a.length ≤ 640 then some (D.int m) else none) = some d := h
      split at h
      · rename_i hl
        cases h
        cases dx with
        | cons h1 h2 => cases h2; cases h1; exact .inr ⟨a, m, rfl, q, hl, k F H _ R (Sub.refl _) (.int _)⟩
      · cases h
  · exact .inl (q_int fr F H σ ρ n xs d vs Q R dx h k)
end
end DL
end

section
set_option Elab.async false
set_option linter.all false
set_option autoImplicit false
set_option maxRecDepth 100000
set_option maxHeartbeats 400000
/-! printed by gen.py -/
namespace P_k02_whole_kinds
open PySem PySem.Spec L2 DL
def tb_KINDS : List (Str × DL.D) := [("k", .tup [.int 1, .int 1, .str "p", .str "k"]), ("p", .tup [.int 1, .int 1, .str "k", .str "p"]), ("ktbl", .tup [.int 1, .int 1, .str "ptbl", .str "ktbl"]), ("ptbl", .tup [.int 1, .int 1, .str "ktbl", .str "ptbl"]), ("sl", .tup [.int 1, .int 1, .str "slf", .str "sl"]), ("slf", .tup [.int 1, .int 1, .str "sl", .str "slf"]), ("yo", .tup [.int 0, .int 1, .str "yo", .str "yo"]), ("co", .tup [.int 0, .int 1, .str "co", .str "co"]), ("bo", .tup [.int 1, .int 0, .str "bo", .str "bo"]), ("kfb", .tup [.int 1, .int 2, .str "pfb", .str "kfb"]), ("pfb", .tup [.int 1, .int 2, .str "kfb", .str "pfb"]), ("m1l", .tup [.int 0, .int 1, .str "m1lp", .str "m1r"]), ("m1r", .tup [.int 0, .int 1, .str "m1rp", .str "m1l"]), ("m1lp", .tup [.int 0, .int 1, .str "m1l", .str "m1rp"]), ("m1rp", .tup [.int 0, .int 1, .str "m1r", .str "m1lp"]), ("k2tog", .tup [.int 2, .int 1, .str "p2tog", .str "ssk"]), ("ssk", .tup [.int 2, .int 1, .str "ssp", .str "k2tog"]), ("p2tog", .tup [.int 2, .int 1, .str "k2tog", .str "ssp"]), ("ssp", .tup [.int 2, .int 1, .str "ssk", .str "p2tog"]), ("cdd", .tup [.int 3, .int 1, .str "cddp", .str "cdd"]), ("cddp", .tup [.int 3, .int 1, .str "cdd", .str "cddp"]), ("c2f", .tup [.int 2, .int 2, .str "c2fw", .str "c2b"]), ("c2b", .tup [.int 2, .int 2, .str "c2bw", .str "c2f"]), ("c2fw", .tup [.int 2, .int 2, .str "c2f", .str "c2bw"]), ("c2bw", .tup [.int 2, .int 2, .str "c2b", .str "c2fw"]), ("c4f", .tup [.int 4, .int 4, .str "c4fw", .str "c4b"]), ("c4b", .tup [.int 4, .int 4, .str "c4bw", .str "c4f"]), ("c4fw", .tup [.int 4, .int 4, .str "c4f", .str "c4bw"]), ("c4bw", .tup [.int 4, .int 4, .str "c4b", .str "c4fw"])]
def g_is_kind : SX := (sRet (eAnd (e1 (dIsi "str") (eVar 0)) (e1 (dInK tb_KINDS) (eVar 0))))
def f_is_kind : FX := runD 1 1 (g_is_kind)
def g_is_yarn : SX := (sRet (eAnd (e1 (dIsi "str") (eVar 0)) (eAnd (e2 dEq (eB dLen (eCons (eVar 0) eNil)) (eC (.int 1))) (eChain dLeA dLeA (eC (.str "a")) (eVar 0) (eC (.str "z"))))))
def f_is_yarn : FX := runD 1 1 (g_is_yarn)
def g_is_cell : SX := (sRet (eAnd (e1 (dIsi "tuple") (eVar 0)) (eAnd (e2 dEq (eB dLen (eCons (eVar 0) eNil)) (eC (.int 2))) (eAnd (eCall (f_is_kind) (eCons (e2 dIx (eVar 0) (eC (.int 0))) eNil)) (eCall (f_is_yarn) (eCons (e2 dIx (eVar 0) (eC (.int 1))) eNil))))))
def f_is_cell : FX := runD 1 1 (g_is_cell)
def g_is_word : SX := (sRet (eAnd (e1 (dIsi "tuple") (eVar 0)) (eB dAll (eCons (eComp [1] (gV 1) (iOf (eVar 0)) tYesD (eCall (f_is_cell) (eCons (eVar 1) eNil))) eNil))))
def f_is_word : FX := runD 2 1 (g_is_word)
def g_takes : SX := (sRet (eB dSum (eCons (eComp [1, 2] (gT (gsC (gV 1) (gsC (gV 2) gsN))) (iOf (eVar 0)) tYesD (e2 dIx (e1 (dIxK tb_KINDS) (eVar 1)) (eC (.int 0)))) eNil)))
def f_takes : FX := runD 3 1 (g_takes)
def g_makes : SX := (sRet (eB dSum (eCons (eComp [1, 2] (gT (gsC (gV 1) (gsC (gV 2) gsN))) (iOf (eVar 0)) tYesD (e2 dIx (e1 (dIxK tb_KINDS) (eVar 1)) (eC (.int 1)))) eNil)))
def f_makes : FX := runD 3 1 (g_makes)
def g_behind : SX := (sRet (eB dTupOf (eCons (eComp [1, 2] (gT (gsC (gV 1) (gsC (gV 2) gsN))) (iOf (e1 dRev (eVar 0))) tYesD (eTup (eCons (e2 dIx (e1 (dIxK tb_KINDS) (eVar 1)) (eC (.int 2))) (eCons (eVar 2) eNil)))) eNil)))
def f_behind : FX := runD 3 1 (g_behind)
def g_mirrored_word : SX := (sRet (eB dTupOf (eCons (eComp [1, 2] (gT (gsC (gV 1) (gsC (gV 2) gsN))) (iOf (e1 dRev (eVar 0))) tYesD (eTup (eCons (e2 dIx (e1 (dIxK tb_KINDS) (eVar 1)) (eC (.int 3))) (eCons (eVar 2) eNil)))) eNil)))
def f_mirrored_word : FX := runD 3 1 (g_mirrored_word)
def g_is_row : SX := (sSeq (sIf (tOrD (tNotD (tTru (e1 (dIsi "tuple") (eVar 0)))) (tOrD (tB (e2 dNe (eB dLen (eCons (eVar 0) eNil)) (eC (.int 3)))) (tNotD (tTru (eB dAll (eCons (eComp [4] (gV 4) (iOf (eVar 0)) tYesD (eCall (f_is_word) (eCons (eVar 4) eNil))) eNil)))))) (sRet (eC (.bl false))) sNx)
  (sSeq (sAsg (gT (gsC (gV 1) (gsC (gV 2) (gsC (gV 3) gsN)))) (eVar 0))
  (sSeq (sIf (tOrD (tB (e2 dGt (eB dLen (eCons (eVar 1) eNil)) (eC (.int 60)))) (tOrD (tB (e2 dGt (eB dLen (eCons (eVar 2) eNil)) (eC (.int 30)))) (tB (e2 dGt (eB dLen (eCons (eVar 3) eNil)) (eC (.int 60)))))) (sRet (eC (.bl false))) sNx)
  (sRet (eIf (tB (e2 dNe (eVar 2) (eTup eNil))) (e2 dGt (eCall (f_takes) (eCons (eVar 2) eNil)) (eC (.int 0))) (e2 dEq (eVar 3) (eTup eNil)))))))
def f_is_row : FX := runD 5 1 (g_is_row)
def g__law_number (W : Wd) : SX := (sSeq (sIf (tB (e2 (dScrNil W) (eVar 0) (eLst eNil))) (sRet (eB dInt (eCons (e2 dMod (e2 dAdd (e2 dMul (eVar 1) (eC (.int 48271))) (eC (.int 12345))) (eC (.int 2147483647))) eNil))) sNx)
  (sSeq (sAsg (gV 2) (e2 (dIxS W) (eVar 0) (e2 dMod (eVar 1) (eB (dLenS W) (eCons (eVar 0) eNil)))))
  (sSeq (sIf (tB (e2 dGe (eB dAbs (eCons (eVar 2) eNil)) (e2 dPow (eC (.int 10)) (eC (.int 60))))) (sAsg (gV 2) (e2 dMod (eVar 2) (e2 dPow (eC (.int 10)) (eC (.int 18))))) sNx)
  (sSeq (sAsg (gV 3) (e2 dMod (e2 dAdd (e2 dMul (e2 dAdd (eVar 2) (e2 dMul (eC (.int 977)) (eVar 1))) (eC (.int 48271))) (e2 dMul (eC (.int 31)) (eB (dLenS W) (eCons (eVar 0) eNil)))) (eC (.int 2147483647))))
  (sRet (eB dInt (eCons (e2 dMod (e2 dAdd (e2 dMul (e2 dMod (e2 dMul (eVar 3) (eC (.int 69621))) (eC (.int 2147483629))) (eC (.int 16807))) (eVar 1)) (eC (.int 2147483587))) eNil)))))))
def f__law_number (W : Wd) : FX := runD 4 2 (g__law_number W)
def g__law_take (W : Wd) : SX := (sSeq (sDrw (eVar 0))
  (sRet (e2 dMod (eB dInt (eCons (eCall (f__law_number W) (eCons (eDrw0 (eVar 0)) (eCons (eB dInt (eCons (eDrw1 (eVar 0)) eNil)) eNil))) eNil)) (eVar 1))))
def f__law_take (W : Wd) : FX := runD 2 2 (g__law_take W)
def g__law_pick (W : Wd) : SX := (sRet (e2 dIxA (eVar 1) (eCall (f__law_take W) (eCons (eVar 0) (eCons (eB dLen (eCons (eVar 1) eNil)) eNil)))))
def f__law_pick (W : Wd) : FX := runD 2 2 (g__law_pick W)
def g__law_kinds : SX := (sSeq (sOwn 0 (.dic [] []))
  (sSeq (sAsg (gV 1) (eC (.str "k 1 1 p k, p 1 1 k p, ktbl 1 1 ptbl ktbl, ptbl 1 1 ktbl ptbl, sl 1 1 slf sl, slf 1 1 sl slf, yo 0 1 yo yo, co 0 1 co co, bo 1 0 bo bo, kfb 1 2 pfb kfb, pfb 1 2 kfb pfb, m1l 0 1 m1lp m1r, m1r 0 1 m1rp m1l, m1lp 0 1 m1l m1rp, m1rp 0 1 m1r m1lp, k2tog 2 1 p2tog ssk, ssk 2 1 ssp k2tog, p2tog 2 1 k2tog ssp, ssp 2 1 ssk p2tog, cdd 3 1 cddp cdd, cddp 3 1 cdd cddp, c2f 2 2 c2fw c2b, c2b 2 2 c2bw c2f, c2fw 2 2 c2f c2bw, c2bw 2 2 c2b c2fw, c4f 4 4 c4fw c4b, c4b 4 4 c4bw c4f, c4fw 4 4 c4f c4bw, c4bw 4 4 c4b c4fw")))
  (sSeq (sFor (gV 2) (iOf (e2 dSplit (eVar 1) (eC (.str ", ")))) (sSeq (sAsg (gV 3) (e2 dSplit (eVar 2) (eC (.str " "))))
  (sPut 0 (e2 dIx (eVar 3) (eC (.int 0))) (eTup (eCons (eB dIntA (eCons (e2 dIx (eVar 3) (eC (.int 1))) eNil)) (eCons (eB dIntA (eCons (e2 dIx (eVar 3) (eC (.int 2))) eNil)) (eCons (e2 dIx (eVar 3) (eC (.int 3))) (eCons (e2 dIx (eVar 3) (eC (.int 4))) eNil))))))))
  (sSeq (sFrz 0) (sRet (eVar 0))))))
def f__law_kinds : FX := runD 4 0 (g__law_kinds)
def g__law_takes : SX := (sRet (eB dSum (eCons (eComp [2, 3] (gT (gsC (gV 2) (gsC (gV 3) gsN))) (iOf (eVar 0)) tYesD (e2 dIx (e2 dIxA (eVar 1) (eVar 2)) (eC (.int 0)))) eNil)))
def f__law_takes : FX := runD 4 2 (g__law_takes)
def g__law_makes : SX := (sRet (eB dSum (eCons (eComp [2, 3] (gT (gsC (gV 2) (gsC (gV 3) gsN))) (iOf (eVar 0)) tYesD (e2 dIx (e2 dIxA (eVar 1) (eVar 2)) (eC (.int 1)))) eNil)))
def f__law_makes : FX := runD 4 2 (g__law_makes)
def g__law_back : SX := (sRet (eB dTupOf (eCons (eComp [2, 3] (gT (gsC (gV 2) (gsC (gV 3) gsN))) (iOf (e1 dRev (eVar 0))) tYesD (eTup (eCons (e2 dIx (e2 dIxA (eVar 1) (eVar 2)) (eC (.int 2))) (eCons (eVar 3) eNil)))) eNil)))
def f__law_back : FX := runD 4 2 (g__law_back)
def g__law_mirror : SX := (sRet (eB dTupOf (eCons (eComp [2, 3] (gT (gsC (gV 2) (gsC (gV 3) gsN))) (iOf (e1 dRev (eVar 0))) tYesD (eTup (eCons (e2 dIx (e2 dIxA (eVar 1) (eVar 2)) (eC (.int 3))) (eCons (eVar 3) eNil)))) eNil)))
def f__law_mirror : FX := runD 4 2 (g__law_mirror)
def g__law_any_word (W : Wd) : SX := (sRet (eB dTupOf (eCons (eComp [2] (gV 2) (iRng1D (eCons (eCall (f__law_take W) (eCons (eVar 0) (eCons (eC (.int 7)) eNil))) eNil)) tYesD (eTup (eCons (eCall (f__law_pick W) (eCons (eVar 0) (eCons (eVar 1) eNil))) (eCons (eCall (f__law_pick W) (eCons (eVar 0) (eCons (eLst (eCons (eC (.str "a")) (eCons (eC (.str "b")) (eCons (eC (.str "z")) eNil)))) eNil))) eNil)))) eNil)))
def f__law_any_word (W : Wd) : FX := runD 3 2 (g__law_any_word W)
def g__law_strange : SX := (sRet (eLst (eCons (eTup (eCons (eC (.str "k")) eNil)) (eCons (eTup (eCons (eC (.str "k")) (eCons (eC (.str "a")) (eCons (eC (.str "a")) eNil)))) (eCons (eLst (eCons (eC (.str "k")) (eCons (eC (.str "a")) eNil))) (eCons (eTup (eCons (eC (.str "K")) (eCons (eC (.str "a")) eNil))) (eCons (eTup (eCons (eC (.str "k")) (eCons (eC (.str "A")) eNil))) (eCons (eTup (eCons (eC (.str "k")) (eCons (eC (.str "")) eNil))) (eCons (eTup (eCons (eC (.str "k")) (eCons (eC (.str "ab")) eNil))) (eCons (eTup (eCons (eC (.str "k")) (eCons (eC (.int 1)) eNil))) (eCons (eTup (eCons (eC (.int 1)) (eCons (eC (.str "a")) eNil))) (eCons (eTup (eCons (eC (.str "")) (eCons (eC (.str "a")) eNil))) (eCons (eC .non) (eCons (eC (.str "k")) (eCons (eTup (eCons (eC (.str "k")) (eCons (eC .non) eNil))) (eCons (eTup (eCons (eC (.str "k2")) (eCons (eC (.str "a")) eNil))) (eCons (eTup (eCons (eC (.str "k")) (eCons (eC (.str "-")) eNil))) eNil)))))))))))))))))
def f__law_strange : FX := runD 0 0 (g__law_strange)
def g__law_rows (W : Wd) : SX := (sSeq (sPar [1, 2, 3] (eCons (eTup (eCons (eC (.str "k")) (eCons (eC (.str "a")) eNil))) (eCons (eTup (eCons (eC (.str "yo")) (eCons (eC (.str "a")) eNil))) (eCons (e2 dAdd (eC (.int 1)) (eCall (f__law_take W) (eCons (eVar 0) (eCons (eC (.int 3)) eNil)))) eNil))))
  (sRet (eLst (eCons (eTup (eCons (eTup (eCons (eTup eNil) (eCons (eTup eNil) (eCons (eTup eNil) eNil)))) (eCons (eC (.bl true)) eNil))) (eCons (eTup (eCons (eTup (eCons (e2 dMul (eTup (eCons (eVar 1) eNil)) (eC (.int 60))) (eCons (e2 dMul (eTup (eCons (eVar 1) eNil)) (eC (.int 30))) (eCons (e2 dMul (eTup (eCons (eVar 1) eNil)) (eC (.int 60))) eNil)))) (eCons (eC (.bl true)) eNil))) (eCons (eTup (eCons (eTup (eCons (e2 dMul (eTup (eCons (eVar 1) eNil)) (eC (.int 61))) (eCons (eTup eNil) (eCons (eTup eNil) eNil)))) (eCons (eC (.bl false)) eNil))) (eCons (eTup (eCons (eTup (eCons (eTup eNil) (eCons (e2 dMul (eTup (eCons (eVar 1) eNil)) (eC (.int 31))) (eCons (eTup eNil) eNil)))) (eCons (eC (.bl false)) eNil))) (eCons (eTup (eCons (eTup (eCons (eTup eNil) (eCons (eTup (eCons (eVar 1) eNil)) (eCons (e2 dMul (eTup (eCons (eVar 1) eNil)) (eC (.int 61))) eNil)))) (eCons (eC (.bl false)) eNil))) (eCons (eTup (eCons (eTup (eCons (eTup (eCons (eVar 1) eNil)) (eCons (eTup eNil) (eCons (eTup (eCons (eVar 1) eNil)) eNil)))) (eCons (eC (.bl false)) eNil))) (eCons (eTup (eCons (eTup (eCons (eTup eNil) (eCons (eTup (eCons (eVar 2) eNil)) (eCons (eTup eNil) eNil)))) (eCons (eC (.bl false)) eNil))) (eCons (eTup (eCons (eTup (eCons (eTup eNil) (eCons (e2 dMul (eTup (eCons (eVar 2) eNil)) (eVar 3)) (eCons (eTup (eCons (eVar 1) eNil)) eNil)))) (eCons (eC (.bl false)) eNil))) (eCons (eTup (eCons (eTup (eCons (eTup eNil) (eCons (eTup (eCons (eVar 2) (eCons (eVar 1) eNil))) (eCons (eTup eNil) eNil)))) (eCons (eC (.bl true)) eNil))) (eCons (eTup (eCons (eTup (eCons (eTup (eCons (eVar 1) eNil)) (eCons (eTup (eCons (eVar 1) eNil)) eNil))) (eCons (eC (.bl false)) eNil))) (eCons (eTup (eCons (eTup (eCons (eTup (eCons (eVar 1) eNil)) (eCons (eTup (eCons (eVar 1) eNil)) (eCons (eTup eNil) (eCons (eTup eNil) eNil))))) (eCons (eC (.bl false)) eNil))) (eCons (eTup (eCons (eLst (eCons (eTup (eCons (eVar 1) eNil)) (eCons (eTup (eCons (eVar 1) eNil)) (eCons (eTup eNil) eNil)))) (eCons (eC (.bl false)) eNil))) (eCons (eTup (eCons (eTup (eCons (eLst (eCons (eVar 1) eNil)) (eCons (eTup (eCons (eVar 1) eNil)) (eCons (eTup eNil) eNil)))) (eCons (eC (.bl false)) eNil))) (eCons (eTup (eCons (eTup (eCons (eTup (eCons (eVar 1) eNil)) (eCons (eLst (eCons (eVar 1) eNil)) (eCons (eTup eNil) eNil)))) (eCons (eC (.bl false)) eNil))) (eCons (eTup (eCons (eTup (eCons (eVar 1) (eCons (eTup (eCons (eVar 1) eNil)) (eCons (eTup eNil) eNil)))) (eCons (eC (.bl false)) eNil))) (eCons (eTup (eCons (eTup (eCons (eTup (eCons (eTup (eCons (eC (.str "k")) (eCons (eC (.str "a")) (eCons (eC (.str "b")) eNil)))) eNil)) (eCons (eTup eNil) (eCons (eTup eNil) eNil)))) (eCons (eC (.bl false)) eNil))) (eCons (eTup (eCons (eC .non) (eCons (eC (.bl false)) eNil))) (eCons (eTup (eCons (eC (.str "row")) (eCons (eC (.bl false)) eNil))) (eCons (eTup (eCons (eTup eNil) (eCons (eC (.bl false)) eNil))) eNil))))))))))))))))))))))
def f__law_rows (W : Wd) : FX := runD 4 1 (g__law_rows W)
def g_law (W : Wd) : SX := (sSeq (sAsg (gV 2) (eCall (f__law_kinds) eNil))
  (sSeq (sAsg (gV 3) (eB dSorted (eCons (eB dLstA (eCons (eVar 2) eNil)) eNil)))
  (sSeq (sIf (tOrD (tB (e2 dNe (eB dSorted (eCons (eC (.lst (tb_KINDS.map fun q => .str q.1))) eNil)) (eVar 3))) (tTru (eB dAny (eCons (eComp [9] (gV 9) (iOf (eVar 3)) tYesD (e2 dNe (e1 (dIxK tb_KINDS) (eVar 9)) (e2 dIxA (eVar 2) (eVar 9)))) eNil)))) (sRet (eC (.bl false))) sNx)
  (sSeq (sFor (gV 4) (iRng1D (eCons (eC (.int 5)) eNil)) (sSeq (sAsg (gV 5) (eCall (f__law_any_word W) (eCons (eVar 1) (eCons (eVar 3) eNil))))
  (sSeq (sIf (tOrD (tB (e2 dNe (eCall (f_takes) (eCons (eVar 5) eNil)) (eCall (f__law_takes) (eCons (eVar 5) (eCons (eVar 2) eNil))))) (tB (e2 dNe (eCall (f_makes) (eCons (eVar 5) eNil)) (eCall (f__law_makes) (eCons (eVar 5) (eCons (eVar 2) eNil)))))) (sRet (eC (.bl false))) sNx)
  (sSeq (sIf (tOrD (tB (e2 dNe (eCall (f_behind) (eCons (eVar 5) eNil)) (eCall (f__law_back) (eCons (eVar 5) (eCons (eVar 2) eNil))))) (tB (e2 dNe (eCall (f_mirrored_word) (eCons (eVar 5) eNil)) (eCall (f__law_mirror) (eCons (eVar 5) (eCons (eVar 2) eNil)))))) (sRet (eC (.bl false))) sNx)
  (sSeq (sIf (tOrD (tB (e2 dNe (eCall (f_behind) (eCons (eCall (f_behind) (eCons (eVar 5) eNil)) eNil)) (eVar 5))) (tOrD (tB (e2 dNe (eCall (f_mirrored_word) (eCons (eCall (f_mirrored_word) (eCons (eVar 5) eNil)) eNil)) (eVar 5))) (tB (e2 dNe (eCall (f_behind) (eCons (eCall (f_mirrored_word) (eCons (eVar 5) eNil)) eNil)) (eCall (f_mirrored_word) (eCons (eCall (f_behind) (eCons (eVar 5) eNil)) eNil)))))) (sRet (eC (.bl false))) sNx)
  (sSeq (sAsg (gT (gsC (gV 6) (gsC (gV 7) gsN))) (eCall (f__law_pick W) (eCons (eVar 1) (eCons (eCall (f__law_rows W) (eCons (eVar 1) eNil)) eNil))))
  (sIf (tOrD (tB (e2 dNe (eCall (f_is_row) (eCons (eVar 6) eNil)) (eVar 7))) (tOrD (tTru (eCall (f_is_cell) (eCons (eCall (f__law_pick W) (eCons (eVar 1) (eCons (eCall (f__law_strange) eNil) eNil))) eNil))) (tNotD (tTru (eCall (f_is_cell) (eCons (eTup (eCons (eCall (f__law_pick W) (eCons (eVar 1) (eCons (eVar 3) eNil))) (eCons (eC (.str "q")) eNil))) eNil)))))) (sRet (eC (.bl false))) sNx)))))))
  (sSeq (sAsg (gV 8) (eComp [6] (gV 6) (iOf (eTup (eCons (eC (.str "k")) (eCons (eC (.str "K")) (eCons (eC (.str "")) (eCons (eC .non) (eCons (eC (.int 3)) (eCons (eC (.str "c4bw")) (eCons (eC (.str "yarn")) (eCons (eTup (eCons (eC (.str "k")) eNil)) eNil)))))))))) tYesD (eCall (f_is_kind) (eCons (eVar 6) eNil))))
  (sRet (e2 dEq (eVar 8) (eLst (eCons (eC (.bl true)) (eCons (eC (.bl false)) (eCons (eC (.bl false)) (eCons (eC (.bl false)) (eCons (eC (.bl false)) (eCons (eC (.bl true)) (eCons (eC (.bl false)) (eCons (eC (.bl false)) eNil))))))))))))))))
end P_k02_whole_kinds
namespace P_k02_whole_kinds
open PySem PySem.Spec L2 DL
open PyProof.Rows (envOfC)
def top (i : Nat) : Stmt := PySem.Challenge.pw_allstitches_k02_whole_kinds.main.body.getD i (.Pass ⟨0, 0, 0, 0⟩)
abbrev s_is_kind : Stmt := top 2
abbrev N_is_kind : List Str := ["thing"]
theorem sc_is_kind : FnScope N_is_kind ["thing"] (defScope s_is_kind) := ⟨rfl, rfl, rfl, by decide +kernel, rfl, by decide +kernel, by decide +kernel⟩
abbrev s_is_yarn : Stmt := top 3
abbrev N_is_yarn : List Str := ["thing"]
theorem sc_is_yarn : FnScope N_is_yarn ["thing"] (defScope s_is_yarn) := ⟨rfl, rfl, rfl, by decide +kernel, rfl, by decide +kernel, by decide +kernel⟩
abbrev s_is_cell : Stmt := top 4
abbrev N_is_cell : List Str := ["thing"]
theorem sc_is_cell : FnScope N_is_cell ["thing"] (defScope s_is_cell) := ⟨rfl, rfl, rfl, by decide +kernel, rfl, by decide +kernel, by decide +kernel⟩
abbrev s_is_word : Stmt := top 5
abbrev N_is_word : List Str := ["thing", "cell"]
theorem sc_is_word : FnScope N_is_word ["thing"] (defScope s_is_word) := ⟨rfl, rfl, rfl, by decide +kernel, rfl, by decide +kernel, by decide +kernel⟩
abbrev s_takes : Stmt := top 6
abbrev N_takes : List Str := ["word", "kind", "yarn"]
theorem sc_takes : FnScope N_takes ["word"] (defScope s_takes) := ⟨rfl, rfl, rfl, by decide +kernel, rfl, by decide +kernel, by decide +kernel⟩
abbrev s_makes : Stmt := top 7
abbrev N_makes : List Str := ["word", "kind", "yarn"]
theorem sc_makes : FnScope N_makes ["word"] (defScope s_makes) := ⟨rfl, rfl, rfl, by decide +kernel, rfl, by decide +kernel, by decide +kernel⟩
abbrev s_behind : Stmt := top 8
abbrev N_behind : List Str := ["word", "kind", "yarn"]
theorem sc_behind : FnScope N_behind ["word"] (defScope s_behind) := ⟨rfl, rfl, rfl, by decide +kernel, rfl, by decide +kernel, by decide +kernel⟩
abbrev s_mirrored_word : Stmt := top 9
abbrev N_mirrored_word : List Str := ["word", "kind", "yarn"]
theorem sc_mirrored_word : FnScope N_mirrored_word ["word"] (defScope s_mirrored_word) := ⟨rfl, rfl, rfl, by decide +kernel, rfl, by decide +kernel, by decide +kernel⟩
abbrev s_is_row : Stmt := top 13
abbrev N_is_row : List Str := ["thing", "before", "rest", "after", "word"]
theorem sc_is_row : FnScope N_is_row ["thing"] (defScope s_is_row) := ⟨rfl, rfl, rfl, by decide +kernel, rfl, by decide +kernel, by decide +kernel⟩
abbrev s__law_number : Stmt := top 15
abbrev N__law_number : List Str := ["_law_script", "_law_index", "_law_cell", "_law_blend"]
theorem sc__law_number : FnScope N__law_number ["_law_script", "_law_index"] (defScope s__law_number) := ⟨rfl, rfl, rfl, by decide +kernel, rfl, by decide +kernel, by decide +kernel⟩
abbrev s__law_take : Stmt := top 16
abbrev N__law_take : List Str := ["_law_draw", "_law_many"]
theorem sc__law_take : FnScope N__law_take ["_law_draw", "_law_many"] (defScope s__law_take) := ⟨rfl, rfl, rfl, by decide +kernel, rfl, by decide +kernel, by decide +kernel⟩
abbrev s__law_pick : Stmt := top 17
abbrev N__law_pick : List Str := ["_law_draw", "_law_items"]
theorem sc__law_pick : FnScope N__law_pick ["_law_draw", "_law_items"] (defScope s__law_pick) := ⟨rfl, rfl, rfl, by decide +kernel, rfl, by decide +kernel, by decide +kernel⟩
abbrev s__law_kinds : Stmt := top 18
abbrev N__law_kinds : List Str := ["_law_found", "_law_table", "_law_told", "_law_row"]
theorem sc__law_kinds : FnScope N__law_kinds [] (defScope s__law_kinds) := ⟨rfl, rfl, rfl, by decide +kernel, rfl, by decide +kernel, by decide +kernel⟩
abbrev s__law_takes : Stmt := top 19
abbrev N__law_takes : List Str := ["_law_word", "_law_kinds_here", "_law_kind", "_law_yarn"]
theorem sc__law_takes : FnScope N__law_takes ["_law_word", "_law_kinds_here"] (defScope s__law_takes) := ⟨rfl, rfl, rfl, by decide +kernel, rfl, by decide +kernel, by decide +kernel⟩
abbrev s__law_makes : Stmt := top 20
abbrev N__law_makes : List Str := ["_law_word", "_law_kinds_here", "_law_kind", "_law_yarn"]
theorem sc__law_makes : FnScope N__law_makes ["_law_word", "_law_kinds_here"] (defScope s__law_makes) := ⟨rfl, rfl, rfl, by decide +kernel, rfl, by decide +kernel, by decide +kernel⟩
abbrev s__law_back : Stmt := top 21
abbrev N__law_back : List Str := ["_law_word", "_law_kinds_here", "_law_kind", "_law_yarn"]
theorem sc__law_back : FnScope N__law_back ["_law_word", "_law_kinds_here"] (defScope s__law_back) := ⟨rfl, rfl, rfl, by decide +kernel, rfl, by decide +kernel, by decide +kernel⟩
abbrev s__law_mirror : Stmt := top 22
abbrev N__law_mirror : List Str := ["_law_word", "_law_kinds_here", "_law_kind", "_law_yarn"]
theorem sc__law_mirror : FnScope N__law_mirror ["_law_word", "_law_kinds_here"] (defScope s__law_mirror) := ⟨rfl, rfl, rfl, by decide +kernel, rfl, by decide +kernel, by decide +kernel⟩
abbrev s__law_any_word : Stmt := top 23
abbrev N__law_any_word : List Str := ["_law_draw", "_law_names", "_law_at"]
theorem sc__law_any_word : FnScope N__law_any_word ["_law_draw", "_law_names"] (defScope s__law_any_word) := ⟨rfl, rfl, rfl, by decide +kernel, rfl, by decide +kernel, by decide +kernel⟩
abbrev s__law_strange : Stmt := top 24
abbrev N__law_strange : List Str := []
theorem sc__law_strange : FnScope N__law_strange [] (defScope s__law_strange) := ⟨rfl, rfl, rfl, by decide +kernel, rfl, by decide +kernel, by decide +kernel⟩
abbrev s__law_rows : Stmt := top 25
abbrev N__law_rows : List Str := ["_law_draw", "_law_k", "_law_yo", "_law_many"]
theorem sc__law_rows : FnScope N__law_rows ["_law_draw"] (defScope s__law_rows) := ⟨rfl, rfl, rfl, by decide +kernel, rfl, by decide +kernel, by decide +kernel⟩
abbrev s_law : Stmt := top 26
abbrev N_law : List Str := ["_law_script", "_law_draw", "_law_kinds_here", "_law_names", "_law_turn", "_law_word", "_law_thing", "_law_is_one", "_law_words", "_law_name"]
theorem sc_law : FnScope N_law ["_law_script"] (defScope s_law) := ⟨rfl, rfl, rfl, by decide +kernel, rfl, by decide +kernel, by decide +kernel⟩
structure Txt (K : PySem.W.Frag) (w : World) (mg : Str → Option Value) (W : Wd) : Prop where
  b_abs : mg "abs" = none
  b_all : mg "all" = none
  b_any : mg "any" = none
  b_int : mg "int" = none
  b_isinstance : mg "isinstance" = none
  b_len : mg "len" = none
  b_list : mg "list" = none
  b_range : mg "range" = none
  b_sorted : mg "sorted" = none
  b_str : mg "str" = none
  b_sum : mg "sum" = none
  b_tuple : mg "tuple" = none
  c_MOST_CELLS : ∃ t, mg "MOST_CELLS" = some (.int 60 t)
  c_MOST_REST : ∃ t, mg "MOST_REST" = some (.int 30 t)
  kt_KINDS : Tab K w W mg "KINDS" tb_KINDS
section
variable {P : Program} {w : World} {K : PySem.W.Frag} {mg : Str → Option Value} {base : Heap} {W : Wd}
theorem ok_is_kind {f : Addr} {fd : FuncData} (F : Fun K "is_kind" "is_kind" s_is_kind f fd) (T : Txt K w mg W)  : FnOk P w K mg base CX0 1 f fd ["thing"] (spD K W (f_is_kind) 1) :=
  okD F sc_is_kind fun cdv A outer s H E hr =>
  (S_one (S_ret (d_and (d_isi rfl T.b_isinstance rfl T.b_str (by decide +kernel) (dv 0)) (d_one (d_inT T.kt_KINDS rfl (dv 0))))))
theorem ok_is_yarn {f : Addr} {fd : FuncData} (F : Fun K "is_yarn" "is_yarn" s_is_yarn f fd) (T : Txt K w mg W)  : FnOk P w K mg base CX0 1 f fd ["thing"] (spD K W (f_is_yarn) 1) :=
  okD F sc_is_yarn fun cdv A outer s H E hr =>
  (S_one (S_ret (d_and (d_isi rfl T.b_isinstance rfl T.b_str (by decide +kernel) (dv 0)) (d_and (d_eq hr.units (d_B call_len q_len rfl T.b_len (by decide +kernel) (ds_cons (dv 0) ds_nil)) d_int) (d_one (d_chain (op_le.or op_le_str) (op_le.or op_le_str) (q_CA _ _) (q_CA _ _) d_str (dv 0) d_str))))))
theorem ok_is_cell {f : Addr} {fd : FuncData} (F : Fun K "is_cell" "is_cell" s_is_cell f fd) (T : Txt K w mg W) (G_is_kind : Cal P w K mg base "is_kind" 1 (spD K W (f_is_kind) 1)) (G_is_yarn : Cal P w K mg base "is_yarn" 1 (spD K W (f_is_yarn) 1)) : FnOk P w K mg base CX0 2 f fd ["thing"] (spD K W (f_is_cell) 1) :=
  okD F sc_is_cell fun cdv A outer s H E hr =>
  (S_one (S_ret (d_and (d_isi rfl T.b_isinstance rfl T.b_tuple (by decide +kernel) (dv 0)) (d_and (d_eq hr.units (d_B call_len q_len rfl T.b_len (by decide +kernel) (ds_cons (dv 0) ds_nil)) d_int) (d_and (c_call G_is_kind (hr.mono (by decide)) rfl (ds_cons (d_ix (dv 0) d_int) ds_nil) (al_cons al_nil)) (d_one (c_call G_is_yarn (hr.mono (by decide)) rfl (ds_cons (d_ix (dv 0) d_int) ds_nil) (al_cons al_nil))))))))
theorem ok_is_word {f : Addr} {fd : FuncData} (F : Fun K "is_word" "is_word" s_is_word f fd) (T : Txt K w mg W) (G_is_cell : Cal P w K mg base "is_cell" 2 (spD K W (f_is_cell) 1)) : FnOk P w K mg base CX0 3 f fd ["thing"] (spD K W (f_is_word) 1) :=
  okD F sc_is_word fun cdv A outer s H E hr =>
  (S_one (S_ret (d_and (d_isi rfl T.b_isinstance rfl T.b_tuple (by decide +kernel) (dv 0)) (d_one (d_B (cr_all rfl) q_all rfl T.b_all (by decide +kernel) (ds_cons (d_comp rfl sc_is_word.nd (i_of (dv 0)) (blkOk_by (own := [("cell", 1)]) (N := N_is_word) (sc := defScope s_is_word) (by decide +kernel)) (fun _ _ _ _ _ => (pg_name (i := 1) sc_is_word.nd rfl (Or.inl rfl))) (q_gV 1) (by decide) (fun _ _ _ _ _ => ts_nil) (fun _ _ _ _ _ => (c_call G_is_cell (hr.mono (by decide)) rfl (ds_cons (dv 1) ds_nil) (al_cons al_nil)))) ds_nil))))))
theorem ok_takes {f : Addr} {fd : FuncData} (F : Fun K "takes" "takes" s_takes f fd) (T : Txt K w mg W)  : FnOk P w K mg base CX0 1 f fd ["word"] (spD K W (f_takes) 1) :=
  okD F sc_takes fun cdv A outer s H E hr =>
  (S_one (S_ret (d_B (cr_sum rfl) q_sum rfl T.b_sum (by decide +kernel) (ds_cons (d_comp rfl sc_takes.nd (i_of (dv 0)) (blkOk_by (own := [("kind", 1), ("yarn", 2)]) (N := N_takes) (sc := defScope s_takes) (by decide +kernel)) (fun _ _ _ _ _ => (pg_tup rfl (pgs_cons (pg_name (i := 1) sc_takes.nd rfl (Or.inl rfl)) (pgs_cons (pg_name (i := 2) sc_takes.nd rfl (Or.inl rfl)) pgs_nil)))) (q_gT (q_gsC (q_gV 1) (q_gsC (q_gV 2) q_gsN)) (gl_C (gl_C gl_N))) (by decide) (fun _ _ _ _ _ => ts_nil) (fun _ _ _ _ _ => (d_ix (d_ixT T.kt_KINDS rfl (dv 1)) d_int))) ds_nil))))
theorem ok_makes {f : Addr} {fd : FuncData} (F : Fun K "makes" "makes" s_makes f fd) (T : Txt K w mg W)  : FnOk P w K mg base CX0 1 f fd ["word"] (spD K W (f_makes) 1) :=
  okD F sc_makes fun cdv A outer s H E hr =>
  (S_one (S_ret (d_B (cr_sum rfl) q_sum rfl T.b_sum (by decide +kernel) (ds_cons (d_comp rfl sc_makes.nd (i_of (dv 0)) (blkOk_by (own := [("kind", 1), ("yarn", 2)]) (N := N_makes) (sc := defScope s_makes) (by decide +kernel)) (fun _ _ _ _ _ => (pg_tup rfl (pgs_cons (pg_name (i := 1) sc_makes.nd rfl (Or.inl rfl)) (pgs_cons (pg_name (i := 2) sc_makes.nd rfl (Or.inl rfl)) pgs_nil)))) (q_gT (q_gsC (q_gV 1) (q_gsC (q_gV 2) q_gsN)) (gl_C (gl_C gl_N))) (by decide) (fun _ _ _ _ _ => ts_nil) (fun _ _ _ _ _ => (d_ix (d_ixT T.kt_KINDS rfl (dv 1)) d_int))) ds_nil))))
theorem ok_behind {f : Addr} {fd : FuncData} (F : Fun K "behind" "behind" s_behind f fd) (T : Txt K w mg W)  : FnOk P w K mg base CX0 1 f fd ["word"] (spD K W (f_behind) 1) :=
  okD F sc_behind fun cdv A outer s H E hr =>
  (S_one (S_ret (d_Ty call_tuple_of q_tupOf rfl T.b_tuple (by decide +kernel) (ds_cons (d_comp rfl sc_behind.nd (i_of (d_rev (dv 0))) (blkOk_by (own := [("kind", 1), ("yarn", 2)]) (N := N_behind) (sc := defScope s_behind) (by decide +kernel)) (fun _ _ _ _ _ => (pg_tup rfl (pgs_cons (pg_name (i := 1) sc_behind.nd rfl (Or.inl rfl)) (pgs_cons (pg_name (i := 2) sc_behind.nd rfl (Or.inl rfl)) pgs_nil)))) (q_gT (q_gsC (q_gV 1) (q_gsC (q_gV 2) q_gsN)) (gl_C (gl_C gl_N))) (by decide) (fun _ _ _ _ _ => ts_nil) (fun _ _ _ _ _ => (d_tup (ds_cons (d_ix (d_ixT T.kt_KINDS rfl (dv 1)) d_int) (ds_cons (dv 2) ds_nil))))) ds_nil))))
theorem ok_mirrored_word {f : Addr} {fd : FuncData} (F : Fun K "mirrored_word" "mirrored_word" s_mirrored_word f fd) (T : Txt K w mg W)  : FnOk P w K mg base CX0 1 f fd ["word"] (spD K W (f_mirrored_word) 1) :=
  okD F sc_mirrored_word fun cdv A outer s H E hr =>
  (S_one (S_ret (d_Ty call_tuple_of q_tupOf rfl T.b_tuple (by decide +kernel) (ds_cons (d_comp rfl sc_mirrored_word.nd (i_of (d_rev (dv 0))) (blkOk_by (own := [("kind", 1), ("yarn", 2)]) (N := N_mirrored_word) (sc := defScope s_mirrored_word) (by decide +kernel)) (fun _ _ _ _ _ => (pg_tup rfl (pgs_cons (pg_name (i := 1) sc_mirrored_word.nd rfl (Or.inl rfl)) (pgs_cons (pg_name (i := 2) sc_mirrored_word.nd rfl (Or.inl rfl)) pgs_nil)))) (q_gT (q_gsC (q_gV 1) (q_gsC (q_gV 2) q_gsN)) (gl_C (gl_C gl_N))) (by decide) (fun _ _ _ _ _ => ts_nil) (fun _ _ _ _ _ => (d_tup (ds_cons (d_ix (d_ixT T.kt_KINDS rfl (dv 1)) d_int) (ds_cons (dv 2) ds_nil))))) ds_nil))))
theorem ok_is_row {f : Addr} {fd : FuncData} (F : Fun K "is_row" "is_row" s_is_row f fd) (T : Txt K w mg W) (G_is_word : Cal P w K mg base "is_word" 3 (spD K W (f_is_word) 1)) (G_takes : Cal P w K mg base "takes" 1 (spD K W (f_takes) 1)) : FnOk P w K mg base CX0 4 f fd ["thing"] (spD K W (f_is_row) 1) :=
  okD F sc_is_row fun cdv A outer s H E hr =>
  (S_cons (S_if (t_w (w_or (t_not (t_tru (d_isi rfl T.b_isinstance rfl T.b_tuple (by decide +kernel) (dv 0)))) (w_or (t_ne hr.units (d_B call_len q_len rfl T.b_len (by decide +kernel) (ds_cons (dv 0) ds_nil)) d_int) (w_or1 (t_not (t_tru (d_B (cr_all rfl) q_all rfl T.b_all (by decide +kernel) (ds_cons (d_comp rfl sc_is_row.nd (i_of (dv 0)) (blkOk_by (own := [("word", 4)]) (N := N_is_row) (sc := defScope s_is_row) (by decide +kernel)) (fun _ _ _ _ _ => (pg_name (i := 4) sc_is_row.nd rfl (Or.inl rfl))) (q_gV 4) (by decide) (fun _ _ _ _ _ => ts_nil) (fun _ _ _ _ _ => (c_call G_is_word (hr.mono (by decide)) rfl (ds_cons (dv 4) ds_nil) (al_cons al_nil)))) ds_nil)))))))) (S_one (S_ret d_bl)) S_nil)
  (S_cons (S_asg (dv 0) (pg_tup rfl (pgs_cons (pg_name (i := 1) sc_is_row.nd rfl (Or.inl rfl)) (pgs_cons (pg_name (i := 2) sc_is_row.nd rfl (Or.inl rfl)) (pgs_cons (pg_name (i := 3) sc_is_row.nd rfl (Or.inl rfl)) pgs_nil)))) (q_gT (q_gsC (q_gV 1) (q_gsC (q_gV 2) (q_gsC (q_gV 3) q_gsN))) (gl_C (gl_C (gl_C gl_N)))))
  (S_cons (S_if (t_w (w_or (t_gt (d_B call_len q_len rfl T.b_len (by decide +kernel) (ds_cons (dv 1) ds_nil)) (d_cint rfl T.c_MOST_CELLS)) (w_or (t_gt (d_B call_len q_len rfl T.b_len (by decide +kernel) (ds_cons (dv 2) ds_nil)) (d_cint rfl T.c_MOST_REST)) (w_or1 (t_gt (d_B call_len q_len rfl T.b_len (by decide +kernel) (ds_cons (dv 3) ds_nil)) (d_cint rfl T.c_MOST_CELLS)))))) (S_one (S_ret d_bl)) S_nil)
  (S_one (S_ret (d_if (t_ne hr.units (dv 2) (d_tup ds_nil)) (d_gt (c_call G_takes (hr.mono (by decide)) rfl (ds_cons (dv 2) ds_nil) (al_cons al_nil)) d_int) (d_eq hr.units (dv 3) (d_tup ds_nil))))))))
theorem ok__law_number {f : Addr} {fd : FuncData} (F : Fun K "_law_number" "_law_number" s__law_number f fd) (T : Txt K w mg W)  : FnOk P w K mg base CX0 1 f fd ["_law_script", "_law_index"] (spD K W (f__law_number W) 2) :=
  okD F sc__law_number fun cdv A outer s H E hr =>
  (S_cons (S_if (t_scrNil hr.units (dv 0) (d_lst ds_nil)) (S_one (S_ret (d_Ty call_int1 q_int rfl T.b_int (by decide +kernel) (ds_cons (d_mod (d_add (d_mul (dv 1) d_int) d_int) d_int) ds_nil)))) S_nil)
  (S_cons (S_asg (d_ixS (dv 0) (d_mod (dv 1) (d_B call_len q_lenS rfl T.b_len (by decide +kernel) (ds_cons (dv 0) ds_nil)))) (pg_name (i := 2) sc__law_number.nd rfl (Or.inl rfl)) (q_gV 2))
  (S_cons (S_if (t_ge (d_B call_abs q_abs rfl T.b_abs (by decide +kernel) (ds_cons (dv 2) ds_nil)) (d_pow d_int d_int)) (S_one (S_asg (d_mod (dv 2) (d_pow d_int d_int)) (pg_name (i := 2) sc__law_number.nd rfl (Or.inl rfl)) (q_gV 2))) S_nil)
  (S_cons (S_asg (d_mod (d_add (d_mul (d_add (dv 2) (d_mul d_int (dv 1))) d_int) (d_mul d_int (d_B call_len q_lenS rfl T.b_len (by decide +kernel) (ds_cons (dv 0) ds_nil)))) d_int) (pg_name (i := 3) sc__law_number.nd rfl (Or.inl rfl)) (q_gV 3))
  (S_one (S_ret (d_Ty call_int1 q_int rfl T.b_int (by decide +kernel) (ds_cons (d_mod (d_add (d_mul (d_mod (d_mul (dv 3) d_int) d_int) d_int) (dv 1)) d_int) ds_nil))))))))
theorem ok__law_take {f : Addr} {fd : FuncData} (F : Fun K "_law_take" "_law_take" s__law_take f fd) (T : Txt K w mg W) (G__law_number : Cal P w K mg base "_law_number" 1 (spD K W (f__law_number W) 2)) : FnOk P w K mg base CX0 2 f fd ["_law_draw", "_law_many"] (spD K W (f__law_take W) 2) :=
  okD F sc__law_take fun cdv A outer s H E hr =>
  (S_cons (S_drw (dv 0))
  (S_one (S_ret (d_mod (d_Ty call_int1 q_int rfl T.b_int (by decide +kernel) (ds_cons (c_call G__law_number (hr.mono (by decide)) rfl (ds_cons (d_drw0 (dv 0)) (ds_cons (d_Ty call_int1 q_int rfl T.b_int (by decide +kernel) (ds_cons (d_drw1 (dv 0)) ds_nil)) ds_nil)) (al_cons (al_cons al_nil))) ds_nil)) (dv 1)))))
theorem ok__law_pick {f : Addr} {fd : FuncData} (F : Fun K "_law_pick" "_law_pick" s__law_pick f fd) (T : Txt K w mg W) (G__law_take : Cal P w K mg base "_law_take" 2 (spD K W (f__law_take W) 2)) : FnOk P w K mg base CX0 3 f fd ["_law_draw", "_law_items"] (spD K W (f__law_pick W) 2) :=
  okD F sc__law_pick fun cdv A outer s H E hr =>
  (S_one (S_ret (d_ixA hr.units (dv 1) (c_call G__law_take (hr.mono (by decide)) rfl (ds_cons (dv 0) (ds_cons (d_B call_len q_len rfl T.b_len (by decide +kernel) (ds_cons (dv 1) ds_nil)) ds_nil)) (al_cons (al_cons al_nil))))))
theorem ok__law_kinds {f : Addr} {fd : FuncData} (F : Fun K "_law_kinds" "_law_kinds" s__law_kinds f fd) (T : Txt K w mg W)  : FnOk P w K mg base CX0 1 f fd [] (spD K W (f__law_kinds) 0) :=
  okD F sc__law_kinds fun cdv A outer s H E hr =>
  (S_cons (S_dic_ (i := 0) sc__law_kinds.nd rfl (Or.inl rfl))
  (S_cons (S_asg d_str (pg_name (i := 1) sc__law_kinds.nd rfl (Or.inl rfl)) (q_gV 1))
  (S_cons (S_for PassesOwn.never rfl (i_of (d_split (dv 1) d_str)) (pg_name (i := 2) sc__law_kinds.nd rfl (Or.inl rfl)) (q_gV 2) (S_cons (S_asg (d_split (dv 2) d_str) (pg_name (i := 3) sc__law_kinds.nd rfl (Or.inl rfl)) (q_gV 3))
  (S_one (S_dput (i := 0) hr.units (pv 0) (d_ix (dv 3) d_int) (d_tup (ds_cons (d_Ty call_intA q_intA rfl T.b_int (by decide +kernel) (ds_cons (d_ix (dv 3) d_int) ds_nil)) (ds_cons (d_Ty call_intA q_intA rfl T.b_int (by decide +kernel) (ds_cons (d_ix (dv 3) d_int) ds_nil)) (ds_cons (d_ix (dv 3) d_int) (ds_cons (d_ix (dv 3) d_int) ds_nil)))))))))
  (S_frz (i := 0) (S_one (S_ret (dv 0)))))))
theorem ok__law_takes {f : Addr} {fd : FuncData} (F : Fun K "_law_takes" "_law_takes" s__law_takes f fd) (T : Txt K w mg W)  : FnOk P w K mg base CX0 1 f fd ["_law_word", "_law_kinds_here"] (spD K W (f__law_takes) 2) :=
  okD F sc__law_takes fun cdv A outer s H E hr =>
  (S_one (S_ret (d_B (cr_sum rfl) q_sum rfl T.b_sum (by decide +kernel) (ds_cons (d_comp rfl sc__law_takes.nd (i_of (dv 0)) (blkOk_by (own := [("_law_kind", 2), ("_law_yarn", 3)]) (N := N__law_takes) (sc := defScope s__law_takes) (by decide +kernel)) (fun _ _ _ _ _ => (pg_tup rfl (pgs_cons (pg_name (i := 2) sc__law_takes.nd rfl (Or.inl rfl)) (pgs_cons (pg_name (i := 3) sc__law_takes.nd rfl (Or.inl rfl)) pgs_nil)))) (q_gT (q_gsC (q_gV 2) (q_gsC (q_gV 3) q_gsN)) (gl_C (gl_C gl_N))) (by decide) (fun _ _ _ _ _ => ts_nil) (fun _ _ _ _ _ => (d_ix (d_ixA hr.units (dv 1) (dv 2)) d_int))) ds_nil))))
theorem ok__law_makes {f : Addr} {fd : FuncData} (F : Fun K "_law_makes" "_law_makes" s__law_makes f fd) (T : Txt K w mg W)  : FnOk P w K mg base CX0 1 f fd ["_law_word", "_law_kinds_here"] (spD K W (f__law_makes) 2) :=
  okD F sc__law_makes fun cdv A outer s H E hr =>
  (S_one (S_ret (d_B (cr_sum rfl) q_sum rfl T.b_sum (by decide +kernel) (ds_cons (d_comp rfl sc__law_makes.nd (i_of (dv 0)) (blkOk_by (own := [("_law_kind", 2), ("_law_yarn", 3)]) (N := N__law_makes) (sc := defScope s__law_makes) (by decide +kernel)) (fun _ _ _ _ _ => (pg_tup rfl (pgs_cons (pg_name (i := 2) sc__law_makes.nd rfl (Or.inl rfl)) (pgs_cons (pg_name (i := 3) sc__law_makes.nd rfl (Or.inl rfl)) pgs_nil)))) (q_gT (q_gsC (q_gV 2) (q_gsC (q_gV 3) q_gsN)) (gl_C (gl_C gl_N))) (by decide) (fun _ _ _ _ _ => ts_nil) (fun _ _ _ _ _ => (d_ix (d_ixA hr.units (dv 1) (dv 2)) d_int))) ds_nil))))
theorem ok__law_back {f : Addr} {fd : FuncData} (F : Fun K "_law_back" "_law_back" s__law_back f fd) (T : Txt K w mg W)  : FnOk P w K mg base CX0 1 f fd ["_law_word", "_law_kinds_here"] (spD K W (f__law_back) 2) :=
  okD F sc__law_back fun cdv A outer s H E hr =>
  (S_one (S_ret (d_Ty call_tuple_of q_tupOf rfl T.b_tuple (by decide +kernel) (ds_cons (d_comp rfl sc__law_back.nd (i_of (d_rev (dv 0))) (blkOk_by (own := [("_law_kind", 2), ("_law_yarn", 3)]) (N := N__law_back) (sc := defScope s__law_back) (by decide +kernel)) (fun _ _ _ _ _ => (pg_tup rfl (pgs_cons (pg_name (i := 2) sc__law_back.nd rfl (Or.inl rfl)) (pgs_cons (pg_name (i := 3) sc__law_back.nd rfl (Or.inl rfl)) pgs_nil)))) (q_gT (q_gsC (q_gV 2) (q_gsC (q_gV 3) q_gsN)) (gl_C (gl_C gl_N))) (by decide) (fun _ _ _ _ _ => ts_nil) (fun _ _ _ _ _ => (d_tup (ds_cons (d_ix (d_ixA hr.units (dv 1) (dv 2)) d_int) (ds_cons (dv 3) ds_nil))))) ds_nil))))
theorem ok__law_mirror {f : Addr} {fd : FuncData} (F : Fun K "_law_mirror" "_law_mirror" s__law_mirror f fd) (T : Txt K w mg W)  : FnOk P w K mg base CX0 1 f fd ["_law_word", "_law_kinds_here"] (spD K W (f__law_mirror) 2) :=
  okD F sc__law_mirror fun cdv A outer s H E hr =>
  (S_one (S_ret (d_Ty call_tuple_of q_tupOf rfl T.b_tuple (by decide +kernel) (ds_cons (d_comp rfl sc__law_mirror.nd (i_of (d_rev (dv 0))) (blkOk_by (own := [("_law_kind", 2), ("_law_yarn", 3)]) (N := N__law_mirror) (sc := defScope s__law_mirror) (by decide +kernel)) (fun _ _ _ _ _ => (pg_tup rfl (pgs_cons (pg_name (i := 2) sc__law_mirror.nd rfl (Or.inl rfl)) (pgs_cons (pg_name (i := 3) sc__law_mirror.nd rfl (Or.inl rfl)) pgs_nil)))) (q_gT (q_gsC (q_gV 2) (q_gsC (q_gV 3) q_gsN)) (gl_C (gl_C gl_N))) (by decide) (fun _ _ _ _ _ => ts_nil) (fun _ _ _ _ _ => (d_tup (ds_cons (d_ix (d_ixA hr.units (dv 1) (dv 2)) d_int) (ds_cons (dv 3) ds_nil))))) ds_nil))))
theorem ok__law_any_word {f : Addr} {fd : FuncData} (F : Fun K "_law_any_word" "_law_any_word" s__law_any_word f fd) (T : Txt K w mg W) (G__law_pick : Cal P w K mg base "_law_pick" 3 (spD K W (f__law_pick W) 2)) (G__law_take : Cal P w K mg base "_law_take" 2 (spD K W (f__law_take W) 2)) : FnOk P w K mg base CX0 4 f fd ["_law_draw", "_law_names"] (spD K W (f__law_any_word W) 2) :=
  okD F sc__law_any_word fun cdv A outer s H E hr =>
  (S_one (S_ret (d_Ty call_tuple_of q_tupOf rfl T.b_tuple (by decide +kernel) (ds_cons (d_comp rfl sc__law_any_word.nd (i_rng1 rfl T.b_range (ds_cons (c_call G__law_take (hr.mono (by decide)) rfl (ds_cons (dv 0) (ds_cons d_int ds_nil)) (al_cons (al_cons al_nil))) ds_nil)) (blkOk_by (own := [("_law_at", 2)]) (N := N__law_any_word) (sc := defScope s__law_any_word) (by decide +kernel)) (fun _ _ _ _ _ => (pg_name (i := 2) sc__law_any_word.nd rfl (Or.inl rfl))) (q_gV 2) (by decide) (fun _ _ _ _ _ => ts_nil) (fun _ _ _ _ _ => (d_tup (ds_cons (c_call G__law_pick (hr.mono (by decide)) rfl (ds_cons (dv 0) (ds_cons (dv 1) ds_nil)) (al_cons (al_cons al_nil))) (ds_cons (c_call G__law_pick (hr.mono (by decide)) rfl (ds_cons (dv 0) (ds_cons (d_lst (ds_cons d_str (ds_cons d_str (ds_cons d_str ds_nil)))) ds_nil)) (al_cons (al_cons al_nil))) ds_nil))))) ds_nil))))
theorem ok__law_strange {f : Addr} {fd : FuncData} (F : Fun K "_law_strange" "_law_strange" s__law_strange f fd) (T : Txt K w mg W)  : FnOk P w K mg base CX0 1 f fd [] (spD K W (f__law_strange) 0) :=
  okD F sc__law_strange fun cdv A outer s H E hr =>
  (S_one (S_ret (d_lst (ds_cons (d_tup (ds_cons d_str ds_nil)) (ds_cons (d_tup (ds_cons d_str (ds_cons d_str (ds_cons d_str ds_nil)))) (ds_cons (d_lst (ds_cons d_str (ds_cons d_str ds_nil))) (ds_cons (d_tup (ds_cons d_str (ds_cons d_str ds_nil))) (ds_cons (d_tup (ds_cons d_str (ds_cons d_str ds_nil))) (ds_cons (d_tup (ds_cons d_str (ds_cons d_str ds_nil))) (ds_cons (d_tup (ds_cons d_str (ds_cons d_str ds_nil))) (ds_cons (d_tup (ds_cons d_str (ds_cons d_int ds_nil))) (ds_cons (d_tup (ds_cons d_int (ds_cons d_str ds_nil))) (ds_cons (d_tup (ds_cons d_str (ds_cons d_str ds_nil))) (ds_cons d_non (ds_cons d_str (ds_cons (d_tup (ds_cons d_str (ds_cons d_non ds_nil))) (ds_cons (d_tup (ds_cons d_str (ds_cons d_str ds_nil))) (ds_cons (d_tup (ds_cons d_str (ds_cons d_str ds_nil))) ds_nil))))))))))))))))))
theorem ok__law_rows {f : Addr} {fd : FuncData} (F : Fun K "_law_rows" "_law_rows" s__law_rows f fd) (T : Txt K w mg W) (G__law_take : Cal P w K mg base "_law_take" 2 (spD K W (f__law_take W) 2)) : FnOk P w K mg base CX0 3 f fd ["_law_draw"] (spD K W (f__law_rows W) 1) :=
  okD F sc__law_rows fun cdv A outer s H E hr =>
  (S_cons (S_par3 (ps_par3 (i := 1) (j := 2) (l := 3) rfl sc__law_rows.nd rfl rfl rfl (by decide) (by decide) (by decide) rfl rfl rfl (ds_cons (d_tup (ds_cons d_str (ds_cons d_str ds_nil))) (ds_cons (d_tup (ds_cons d_str (ds_cons d_str ds_nil))) (ds_cons (d_add d_int (c_call G__law_take (hr.mono (by decide)) rfl (ds_cons (dv 0) (ds_cons d_int ds_nil)) (al_cons (al_cons al_nil)))) ds_nil))) (by rfl)))
  (S_one (S_ret (d_lst (ds_cons (d_tup (ds_cons (d_tup (ds_cons (d_tup ds_nil) (ds_cons (d_tup ds_nil) (ds_cons (d_tup ds_nil) ds_nil)))) (ds_cons d_bl ds_nil))) (ds_cons (d_tup (ds_cons (d_tup (ds_cons (d_mul (d_tup (ds_cons (dv 1) ds_nil)) d_int) (ds_cons (d_mul (d_tup (ds_cons (dv 1) ds_nil)) d_int) (ds_cons (d_mul (d_tup (ds_cons (dv 1) ds_nil)) d_int) ds_nil)))) (ds_cons d_bl ds_nil))) (ds_cons (d_tup (ds_cons (d_tup (ds_cons (d_mul (d_tup (ds_cons (dv 1) ds_nil)) d_int) (ds_cons (d_tup ds_nil) (ds_cons (d_tup ds_nil) ds_nil)))) (ds_cons d_bl ds_nil))) (ds_cons (d_tup (ds_cons (d_tup (ds_cons (d_tup ds_nil) (ds_cons (d_mul (d_tup (ds_cons (dv 1) ds_nil)) d_int) (ds_cons (d_tup ds_nil) ds_nil)))) (ds_cons d_bl ds_nil))) (ds_cons (d_tup (ds_cons (d_tup (ds_cons (d_tup ds_nil) (ds_cons (d_tup (ds_cons (dv 1) ds_nil)) (ds_cons (d_mul (d_tup (ds_cons (dv 1) ds_nil)) d_int) ds_nil)))) (ds_cons d_bl ds_nil))) (ds_cons (d_tup (ds_cons (d_tup (ds_cons (d_tup (ds_cons (dv 1) ds_nil)) (ds_cons (d_tup ds_nil) (ds_cons (d_tup (ds_cons (dv 1) ds_nil)) ds_nil)))) (ds_cons d_bl ds_nil))) (ds_cons (d_tup (ds_cons (d_tup (ds_cons (d_tup ds_nil) (ds_cons (d_tup (ds_cons (dv 2) ds_nil)) (ds_cons (d_tup ds_nil) ds_nil)))) (ds_cons d_bl ds_nil))) (ds_cons (d_tup (ds_cons (d_tup (ds_cons (d_tup ds_nil) (ds_cons (d_mul (d_tup (ds_cons (dv 2) ds_nil)) (dv 3)) (ds_cons (d_tup (ds_cons (dv 1) ds_nil)) ds_nil)))) (ds_cons d_bl ds_nil))) (ds_cons (d_tup (ds_cons (d_tup (ds_cons (d_tup ds_nil) (ds_cons (d_tup (ds_cons (dv 2) (ds_cons (dv 1) ds_nil))) (ds_cons (d_tup ds_nil) ds_nil)))) (ds_cons d_bl ds_nil))) (ds_cons (d_tup (ds_cons (d_tup (ds_cons (d_tup (ds_cons (dv 1) ds_nil)) (ds_cons (d_tup (ds_cons (dv 1) ds_nil)) ds_nil))) (ds_cons d_bl ds_nil))) (ds_cons (d_tup (ds_cons (d_tup (ds_cons (d_tup (ds_cons (dv 1) ds_nil)) (ds_cons (d_tup (ds_cons (dv 1) ds_nil)) (ds_cons (d_tup ds_nil) (ds_cons (d_tup ds_nil) ds_nil))))) (ds_cons d_bl ds_nil))) (ds_cons (d_tup (ds_cons (d_lst (ds_cons (d_tup (ds_cons (dv 1) ds_nil)) (ds_cons (d_tup (ds_cons (dv 1) ds_nil)) (ds_cons (d_tup ds_nil) ds_nil)))) (ds_cons d_bl ds_nil))) (ds_cons (d_tup (ds_cons (d_tup (ds_cons (d_lst (ds_cons (dv 1) ds_nil)) (ds_cons (d_tup (ds_cons (dv 1) ds_nil)) (ds_cons (d_tup ds_nil) ds_nil)))) (ds_cons d_bl ds_nil))) (ds_cons (d_tup (ds_cons (d_tup (ds_cons (d_tup (ds_cons (dv 1) ds_nil)) (ds_cons (d_lst (ds_cons (dv 1) ds_nil)) (ds_cons (d_tup ds_nil) ds_nil)))) (ds_cons d_bl ds_nil))) (ds_cons (d_tup (ds_cons (d_tup (ds_cons (dv 1) (ds_cons (d_tup (ds_cons (dv 1) ds_nil)) (ds_cons (d_tup ds_nil) ds_nil)))) (ds_cons d_bl ds_nil))) (ds_cons (d_tup (ds_cons (d_tup (ds_cons (d_tup (ds_cons (d_tup (ds_cons d_str (ds_cons d_str (ds_cons d_str ds_nil)))) ds_nil)) (ds_cons (d_tup ds_nil) (ds_cons (d_tup ds_nil) ds_nil)))) (ds_cons d_bl ds_nil))) (ds_cons (d_tup (ds_cons d_non (ds_cons d_bl ds_nil))) (ds_cons (d_tup (ds_cons d_str (ds_cons d_bl ds_nil))) (ds_cons (d_tup (ds_cons (d_tup ds_nil) (ds_cons d_bl ds_nil))) ds_nil)))))))))))))))))))))))
theorem body_law {f : Addr} {fd : FuncData} (F : Fun K "law" "law" s_law f fd) (T : Txt K w mg W) (G__law_any_word : Cal P w K mg base "_law_any_word" 4 (spD K W (f__law_any_word W) 2)) (G__law_back : Cal P w K mg base "_law_back" 1 (spD K W (f__law_back) 2)) (G__law_kinds : Cal P w K mg base "_law_kinds" 1 (spD K W (f__law_kinds) 0)) (G__law_makes : Cal P w K mg base "_law_makes" 1 (spD K W (f__law_makes) 2)) (G__law_mirror : Cal P w K mg base "_law_mirror" 1 (spD K W (f__law_mirror) 2)) (G__law_pick : Cal P w K mg base "_law_pick" 3 (spD K W (f__law_pick W) 2)) (G__law_rows : Cal P w K mg base "_law_rows" 3 (spD K W (f__law_rows W) 1)) (G__law_strange : Cal P w K mg base "_law_strange" 1 (spD K W (f__law_strange) 0)) (G__law_takes : Cal P w K mg base "_law_takes" 1 (spD K W (f__law_takes) 2)) (G_behind : Cal P w K mg base "behind" 1 (spD K W (f_behind) 1)) (G_is_cell : Cal P w K mg base "is_cell" 2 (spD K W (f_is_cell) 1)) (G_is_kind : Cal P w K mg base "is_kind" 1 (spD K W (f_is_kind) 1)) (G_is_row : Cal P w K mg base "is_row" 4 (spD K W (f_is_row) 1)) (G_makes : Cal P w K mg base "makes" 1 (spD K W (f_makes) 1)) (G_mirrored_word : Cal P w K mg base "mirrored_word" 1 (spD K W (f_mirrored_word) 1)) (G_takes : Cal P w K mg base "takes" 1 (spD K W (f_takes) 1)) {k : Nat} (hk : 4 ≤ k) : ∀ (cdv : Value) (A : Around) (outer : List PySem.Env) (s : Shared) (H : Hp) (E : XK), Room k (A.deeper (envOfC "law" (defScope s_law) s.heap.objs.size f cdv)) → PSs (cxOf CX0 P w K mg base N_law "law" (defScope s_law) f cdv A outer s H E).nox ((defBody s_law).drop 1) (tS K W (g_law W)) := fun cdv A outer s H E hr0 => by
  have hr := hr0.mono hk
  exact (S_cons (S_asg (c_call0 G__law_kinds (hr.mono (by decide)) rfl) (pg_name (i := 2) sc_law.nd rfl (Or.inr rfl)) (q_gV 2))
  (S_cons (S_asg (d_B call_sortedA q_sorted rfl T.b_sorted (by decide +kernel) (ds_cons (d_Ty (call_listA rfl) q_lstA rfl T.b_list (by decide +kernel) (ds_cons (dv 2) ds_nil)) ds_nil)) (pg_name (i := 3) sc_law.nd rfl (Or.inl rfl)) (q_gV 3))
  (S_cons (S_if (t_w (w_or (t_ne hr.units (d_B call_sortedA q_sorted rfl T.b_sorted (by decide +kernel) (ds_cons (d_lstT rfl T.kt_KINDS rfl T.b_list rfl) ds_nil)) (dv 3)) (w_or1 (t_tru (d_B (cr_any rfl) q_any rfl T.b_any (by decide +kernel) (ds_cons (d_comp rfl sc_law.nd (i_of (dv 3)) (blkOk_by (own := [("_law_name", 9)]) (N := N_law) (sc := defScope s_law) (by decide +kernel)) (fun _ _ _ _ _ => (pg_name (i := 9) sc_law.nd rfl (Or.inl rfl))) (q_gV 9) (by decide) (fun _ _ _ _ _ => ts_nil) (fun _ _ _ _ _ => (d_ne hr.units (d_ixT T.kt_KINDS rfl (dv 9)) (d_ixA hr.units (dv 2) (dv 9))))) ds_nil)))))) (S_one (S_ret d_bl)) S_nil)
  (S_cons (S_for PassesOwn.never rfl (i_rng1 rfl T.b_range (ds_cons d_int ds_nil)) (pg_name (i := 4) sc_law.nd rfl (Or.inl rfl)) (q_gV 4) (S_cons (S_asg (c_call G__law_any_word (hr.mono (by decide)) rfl (ds_cons (dv 1) (ds_cons (dv 3) ds_nil)) (al_cons (al_cons al_nil))) (pg_name (i := 5) sc_law.nd rfl (Or.inl rfl)) (q_gV 5))
  (S_cons (S_if (t_w (w_or (t_ne hr.units (c_call G_takes (hr.mono (by decide)) rfl (ds_cons (dv 5) ds_nil) (al_cons al_nil)) (c_call G__law_takes (hr.mono (by decide)) rfl (ds_cons (dv 5) (ds_cons (dv 2) ds_nil)) (al_cons (al_cons al_nil)))) (w_or1 (t_ne hr.units (c_call G_makes (hr.mono (by decide)) rfl (ds_cons (dv 5) ds_nil) (al_cons al_nil)) (c_call G__law_makes (hr.mono (by decide)) rfl (ds_cons (dv 5) (ds_cons (dv 2) ds_nil)) (al_cons (al_cons al_nil))))))) (S_one (S_ret d_bl)) S_nil)
  (S_cons (S_if (t_w (w_or (t_ne hr.units (c_call G_behind (hr.mono (by decide)) rfl (ds_cons (dv 5) ds_nil) (al_cons al_nil)) (c_call G__law_back (hr.mono (by decide)) rfl (ds_cons (dv 5) (ds_cons (dv 2) ds_nil)) (al_cons (al_cons al_nil)))) (w_or1 (t_ne hr.units (c_call G_mirrored_word (hr.mono (by decide)) rfl (ds_cons (dv 5) ds_nil) (al_cons al_nil)) (c_call G__law_mirror (hr.mono (by decide)) rfl (ds_cons (dv 5) (ds_cons (dv 2) ds_nil)) (al_cons (al_cons al_nil))))))) (S_one (S_ret d_bl)) S_nil)
  (S_cons (S_if (t_w (w_or (t_ne hr.units (c_call G_behind (hr.mono (by decide)) rfl (ds_cons (c_call G_behind (hr.mono (by decide)) rfl (ds_cons (dv 5) ds_nil) (al_cons al_nil)) ds_nil) (al_cons al_nil)) (dv 5)) (w_or (t_ne hr.units (c_call G_mirrored_word (hr.mono (by decide)) rfl (ds_cons (c_call G_mirrored_word (hr.mono (by decide)) rfl (ds_cons (dv 5) ds_nil) (al_cons al_nil)) ds_nil) (al_cons al_nil)) (dv 5)) (w_or1 (t_ne hr.units (c_call G_behind (hr.mono (by decide)) rfl (ds_cons (c_call G_mirrored_word (hr.mono (by decide)) rfl (ds_cons (dv 5) ds_nil) (al_cons al_nil)) ds_nil) (al_cons al_nil)) (c_call G_mirrored_word (hr.mono (by decide)) rfl (ds_cons (c_call G_behind (hr.mono (by decide)) rfl (ds_cons (dv 5) ds_nil) (al_cons al_nil)) ds_nil) (al_cons al_nil))))))) (S_one (S_ret d_bl)) S_nil)
  (S_cons (S_asg (c_call G__law_pick (hr.mono (by decide)) rfl (ds_cons (dv 1) (ds_cons (c_call G__law_rows (hr.mono (by decide)) rfl (ds_cons (dv 1) ds_nil) (al_cons al_nil)) ds_nil)) (al_cons (al_cons al_nil))) (pg_tup rfl (pgs_cons (pg_name (i := 6) sc_law.nd rfl (Or.inl rfl)) (pgs_cons (pg_name (i := 7) sc_law.nd rfl (Or.inl rfl)) pgs_nil))) (q_gT (q_gsC (q_gV 6) (q_gsC (q_gV 7) q_gsN)) (gl_C (gl_C gl_N))))
  (S_one (S_if (t_w (w_or (t_ne hr.units (c_call G_is_row (hr.mono (by decide)) rfl (ds_cons (dv 6) ds_nil) (al_cons al_nil)) (dv 7)) (w_or (t_tru (c_call G_is_cell (hr.mono (by decide)) rfl (ds_cons (c_call G__law_pick (hr.mono (by decide)) rfl (ds_cons (dv 1) (ds_cons (c_call0 G__law_strange (hr.mono (by decide)) rfl) ds_nil)) (al_cons (al_cons al_nil))) ds_nil) (al_cons al_nil))) (w_or1 (t_not (t_tru (c_call G_is_cell (hr.mono (by decide)) rfl (ds_cons (d_tup (ds_cons (c_call G__law_pick (hr.mono (by decide)) rfl (ds_cons (dv 1) (ds_cons (dv 3) ds_nil)) (al_cons (al_cons al_nil))) (ds_cons d_str ds_nil))) ds_nil) (al_cons al_nil)))))))) (S_one (S_ret d_bl)) S_nil))))))))
  (S_cons (S_setComp (i := 8) rfl sc_law.nd rfl rfl (sw_true rfl rfl rfl (by decide +kernel)) (i_of (d_tup (ds_cons d_str (ds_cons d_str (ds_cons d_str (ds_cons d_non (ds_cons d_int (ds_cons d_str (ds_cons d_str (ds_cons (d_tup (ds_cons d_str ds_nil)) ds_nil)))))))))) (blkOk_by (own := [("_law_thing", 6)]) (N := N_law) (sc := defScope s_law) (by decide +kernel)) (fun _ _ _ _ _ => (pg_name (i := 6) sc_law.nd rfl (Or.inl rfl))) (q_gV 6) (by decide) (fun _ _ _ _ _ => ts_nil) (fun _ _ _ _ _ => (c_call G_is_kind (hr.mono (by decide)) rfl (ds_cons (dv 6) ds_nil) (al_cons al_nil))))
  (S_one (S_ret (d_eq hr.units (dv 8) (d_lst (ds_cons d_bl (ds_cons d_bl (ds_cons d_bl (ds_cons d_bl (ds_cons d_bl (ds_cons d_bl (ds_cons d_bl (ds_cons d_bl ds_nil)))))))))))))))))
end
end P_k02_whole_kinds
end

section
set_option Elab.async false
set_option linter.all false
set_option autoImplicit false
set_option maxRecDepth 100000
/-! evaluating the functions over plain data -/
namespace DL
open PySem L2
/-- the ways on, by names of their own (no match stands in a goal) -/
def bindR {α β : Type} (r : Option (Except Xc α × Int)) (k : α → M β) : Option (Except Xc β × Int) := match r with
  | none => none
  | some (.ok x, n1) => k x n1
  | some (.error e, n1) => some (.error e, n1)
@[simp] theorem bindR_ok {α β : Type} (x : α) (n : Int) (k : α → M β) : bindR (some (.ok x, n)) k = k x n := (rfl)
@[simp] theorem bindR_none {α β : Type} (k : α → M β) : bindR none k = none := (rfl)
@[simp] theorem bindR_err {α β : Type} (e : Xc) (n : Int) (k : α → M β) : bindR (some (.error e, n)) k = some (.error e, n) := (rfl)
def selB {α : Type} (b : Bool) (x y : α) : α := match b with | true => x | false => y
@[simp] theorem selB_true {α : Type} (x y : α) : selB true x y = x := (rfl)
@[simp] theorem selB_false {α : Type} (x y : α) : selB false x y = y := (rfl)
def seqK (h : SX) (o : Out) : M Out := match o with
  | .nx ρ' => h ρ'
  | .bk ρ' => M.pure (.bk ρ')
  | .ct ρ' => M.pure (.ct ρ')
  | .ret d => M.pure (.ret d)
@[simp] theorem seqK_nx (h : SX) (ρ : Env) : seqK h (.nx ρ) = h ρ := (rfl)
@[simp] theorem seqK_bk (h : SX) (ρ : Env) : seqK h (.bk ρ) = M.pure (.bk ρ) := (rfl)
@[simp] theorem seqK_ct (h : SX) (ρ : Env) : seqK h (.ct ρ) = M.pure (.ct ρ) := (rfl)
@[simp] theorem seqK_ret (h : SX) (d : D) : seqK h (.ret d) = M.pure (.ret d) := (rfl)
def runK (o : Out) : M D := match o with
  | .ret d => M.pure d
  | .nx _ => M.pure .non
  | _ => M.opt none
@[simp] theorem runK_ret (d : D) : runK (.ret d) = M.pure d := (rfl)
@[simp] theorem runK_nx (ρ : Env) : runK (.nx ρ) = M.pure .non := (rfl)
def runIK (o : Out) : M D := match o with
  | .nx (Sl.own d :: _) => M.pure d
  | _ => M.opt none
@[simp] theorem runIK_nx (d : D) (r : Env) : runIK (.nx (Sl.own d :: r)) = M.pure d := (rfl)
/-- behind a turn: on with k, or out -/
def turnK (k : Env → M Out) (o : Out) : M Out := match o with
  | .nx ρ2 => k ρ2
  | .ct ρ2 => k ρ2
  | .bk ρ2 => M.pure (.nx ρ2)
  | .ret d => M.pure (.ret d)
@[simp] theorem turnK_nx (k : Env → M Out) (ρ : Env) : turnK k (.nx ρ) = k ρ := (rfl)
@[simp] theorem turnK_ct (k : Env → M Out) (ρ : Env) : turnK k (.ct ρ) = k ρ := (rfl)
@[simp] theorem turnK_bk (k : Env → M Out) (ρ : Env) : turnK k (.bk ρ) = M.pure (.nx ρ) := (rfl)
@[simp] theorem turnK_ret (k : Env → M Out) (d : D) : turnK k (.ret d) = M.pure (.ret d) := (rfl)
def makeK (c : Nat) (d : D) : M D := match d with
  | .obj c' ks vs => if c' = c then M.pure (.obj c' ks vs) else M.opt none
  | _ => M.opt none
@[simp] theorem makeK_obj (c : Nat) (ks : List Str) (vs : List D) : makeK c (.obj c ks vs) = M.pure (.obj c ks vs) := if_pos rfl
def intK (d : D) : Option (Option Int) := match d with | .int i => some (some i) | _ => none
@[simp] theorem intK_int (i : Int) : intK (.int i) = some (some i) := (rfl)
def chainK (o2 : D → D → Option D) (y : D) (fc : M D) (r : D) : M D := match r with
  | .bl true => M.bind fc fun z => M.opt (o2 y z)
  | .bl false => M.pure (.bl false)
  | _ => M.opt none
@[simp] theorem chainK_true (o2 : D → D → Option D) (y : D) (fc : M D) : chainK o2 y fc (.bl true) = M.bind fc fun z => M.opt (o2 y z) := (rfl)
@[simp] theorem chainK_false (o2 : D → D → Option D) (y : D) (fc : M D) : chainK o2 y fc (.bl false) = M.pure (.bl false) := (rfl)
def consO (y : Option D) (ys : List D) : List D := match y with | some z => z :: ys | none => ys
@[simp] theorem consO_some (z : D) (ys : List D) : consO (some z) ys = z :: ys := (rfl)
@[simp] theorem consO_none (ys : List D) : consO none ys = ys := (rfl)
def findK (o : Option D) (r : D → D) (ρ : Env) : Out := match o with | some d => .ret (r d) | none => .nx ρ
@[simp] theorem findK_some (d : D) (r : D → D) (ρ : Env) : findK (some d) r ρ = .ret (r d) := (rfl)
@[simp] theorem findK_none (r : D → D) (ρ : Env) : findK none r ρ = .nx ρ := (rfl)
@[simp] theorem bind_ap {α β : Type} (a : M α) (k : α → M β) (n : Int) : M.bind a k n = bindR (a n) k := (rfl)
@[simp] theorem pure_ap {α : Type} (a : α) (n : Int) : M.pure a n = some (.ok a, n) := (rfl)
@[simp] theorem opt_some {α : Type} (a : α) (n : Int) : M.opt (some a) n = some (.ok a, n) := (rfl)
@[simp] theorem opt_none {α : Type} (n : Int) : (M.opt (none : Option α)) n = none := (rfl)
@[simp] theorem eVar_0 (d : D) (r : Env) (n : Int) : eVar 0 (.val d :: r) n = some (.ok d, n) := (rfl)
@[simp] theorem eVar_s (i : Nat) (s : Sl) (r : Env) (n : Int) : eVar (i + 1) (s :: r) n = eVar i r n := (rfl)
@[simp] theorem eC_ap (d : D) (ρ : Env) (n : Int) : eC d ρ n = some (.ok d, n) := (rfl)
@[simp] theorem eNil_ap (ρ : Env) (n : Int) : eNil ρ n = some (.ok [], n) := (rfl)
@[simp] theorem eCons_ap (f : EX) (g : EXs) (ρ : Env) (n : Int) : eCons f g ρ n = M.bind (f ρ) (fun d => M.bind (g ρ) fun ds => M.pure (d :: ds)) n := (rfl)
@[simp] theorem eTup_ap (f : EXs) (ρ : Env) (n : Int) : eTup f ρ n = M.bind (f ρ) (fun ds => M.opt (mkTup ds)) n := (rfl)
@[simp] theorem eLst_ap (f : EXs) (ρ : Env) (n : Int) : eLst f ρ n = M.bind (f ρ) (fun ds => M.opt (mkLst ds)) n := (rfl)
@[simp] theorem e2_ap (op : D → D → Option D) (a b : EX) (ρ : Env) (n : Int) : e2 op a b ρ n = M.bind (a ρ) (fun x => M.bind (b ρ) fun y => M.opt (op x y)) n := (rfl)
@[simp] theorem e1_ap (op : D → Option D) (a : EX) (ρ : Env) (n : Int) : e1 op a ρ n = M.bind (a ρ) (fun x => M.opt (op x)) n := (rfl)
@[simp] theorem eB_ap (op : List D → Option D) (a : EXs) (ρ : Env) (n : Int) : eB op a ρ n = M.bind (a ρ) (fun x => M.opt (op x)) n := (rfl)
@[simp] theorem eCall_ap (fx : FX) (a : EXs) (ρ : Env) (n : Int) : eCall fx a ρ n = M.bind (a ρ) fx n := (rfl)
@[simp] theorem eMake_ap (c : Nat) (fx : FX) (a : EXs) (ρ : Env) (n : Int) : eMake c fx a ρ n = M.bind (a ρ) (fun ds => M.bind (fx ds) (makeK c)) n := (rfl)
@[simp] theorem eMeth_ap (c : Nat) (m : Str) (fx : FX) (fo : EX) (fs : EXs) (ρ : Env) (n : Int) : eMeth c m fx fo fs ρ n = M.bind (fo ρ) (fun o => if isObj c m o then M.bind (fs ρ) fun ds => fx (o :: ds) else M.opt none) n := (rfl)
@[simp] theorem eIf_ap (t : TX) (f g : EX) (ρ : Env) (n : Int) : eIf t f g ρ n = M.bind (t ρ) (fun b => selB b (f ρ) (g ρ)) n := (rfl)
@[simp] theorem eAnd_ap (f g : EX) (ρ : Env) (n : Int) : eAnd f g ρ n = M.bind (f ρ) (fun d => M.bind (M.opt (dTru d)) fun b => selB b (g ρ) (M.pure d)) n := (rfl)
@[simp] theorem eOr_ap (f g : EX) (ρ : Env) (n : Int) : eOr f g ρ n = M.bind (f ρ) (fun d => M.bind (M.opt (dTru d)) fun b => selB b (M.pure d) (g ρ)) n := (rfl)
@[simp] theorem eNot_ap (f : EX) (ρ : Env) (n : Int) : eNot f ρ n = M.bind (f ρ) (fun d => M.bind (M.opt (dTru d)) fun b => M.pure (.bl (!b))) n := (rfl)
@[simp] theorem eCut_ap (f : EX) (lo hi : EO) (ρ : Env) (n : Int) : eCut f lo hi ρ n = M.bind (f ρ) (fun x => M.bind (lo ρ) fun l => M.bind (hi ρ) fun h => M.opt (dCut x l h)) n := (rfl)
@[simp] theorem oNone_ap (ρ : Env) (n : Int) : oNone ρ n = some (.ok none, n) := (rfl)
@[simp] theorem oSome_ap (f : EX) (ρ : Env) (n : Int) : oSome f ρ n = M.bind (f ρ) (fun d => M.opt (intK d)) n := (rfl)
@[simp] theorem eChain_ap (o1 o2 : D → D → Option D) (fa fb fc : EX) (ρ : Env) (n : Int) : eChain o1 o2 fa fb fc ρ n = M.bind (fa ρ) (fun x => M.bind (fb ρ) fun y => M.bind (M.opt (o1 x y)) fun r => chainK o2 y (fc ρ) r) n := (rfl)
@[simp] theorem tB_ap (f : EX) (ρ : Env) (n : Int) : tB f ρ n = M.bind (f ρ) (fun d => M.opt (dBool d)) n := (rfl)
@[simp] theorem tTru_ap (f : EX) (ρ : Env) (n : Int) : tTru f ρ n = M.bind (f ρ) (fun d => M.opt (dTru d)) n := (rfl)
@[simp] theorem tAndD_ap (t u : TX) (ρ : Env) (n : Int) : tAndD t u ρ n = M.bind (t ρ) (fun b => selB b (u ρ) (M.pure false)) n := (rfl)
@[simp] theorem tOrD_ap (t u : TX) (ρ : Env) (n : Int) : tOrD t u ρ n = M.bind (t ρ) (fun b => selB b (M.pure true) (u ρ)) n := (rfl)
@[simp] theorem tNotD_ap (t : TX) (ρ : Env) (n : Int) : tNotD t ρ n = M.bind (t ρ) (fun b => M.pure (!b)) n := (rfl)
@[simp] theorem tYesD_ap (ρ : Env) (n : Int) : tYesD ρ n = some (.ok true, n) := (rfl)
@[simp] theorem dBool_bl (b : Bool) : dBool (.bl b) = some b := (rfl)
@[simp] theorem dTru_bl (b : Bool) : dTru (.bl b) = some b := (rfl)
@[simp] theorem isNon_non : isNon .non = true := (rfl)
@[simp] theorem isNon_int (i : Int) : isNon (.int i) = false := (rfl)
@[simp] theorem isNon_tup (xs : List D) : isNon (.tup xs) = false := (rfl)
@[simp] theorem sNx_ap (ρ : Env) (n : Int) : sNx ρ n = some (.ok (.nx ρ), n) := (rfl)
@[simp] theorem sSeq_ap (g h : SX) (ρ : Env) (n : Int) : sSeq g h ρ n = M.bind (g ρ) (seqK h) n := (rfl)
@[simp] theorem sRet_ap (f : EX) (ρ : Env) (n : Int) : sRet f ρ n = M.bind (f ρ) (fun d => M.pure (.ret d)) n := (rfl)
@[simp] theorem sExp_ap (f : EX) (ρ : Env) (n : Int) : sExp f ρ n = M.bind (f ρ) (fun _ => M.pure (.nx ρ)) n := (rfl)
@[simp] theorem sAsg_ap (g : GX) (f : EX) (ρ : Env) (n : Int) : sAsg g f ρ n = M.bind (f ρ) (fun d => M.bind (M.opt (g d ρ)) fun ρ' => M.pure (.nx ρ')) n := (rfl)
@[simp] theorem sIf_ap (t : TX) (g h : SX) (ρ : Env) (n : Int) : sIf t g h ρ n = M.bind (t ρ) (fun b => selB b (g ρ) (h ρ)) n := (rfl)
@[simp] theorem sFor_ap (g : GX) (it : IX) (b : SX) (ρ : Env) (n : Int) : sFor g it b ρ n = M.bind (it ρ) (fun ds => forD g b ds ρ) n := (rfl)
@[simp] theorem sWhile_ap (m : Env → Nat) (t : TX) (b : SX) (ρ : Env) (n : Int) : sWhile m t b ρ n = whileD t b (m ρ) ρ n := (rfl)
@[simp] theorem sAug_ap (i : Nat) (op : D → D → Option D) (f : EX) (ρ : Env) (n : Int) : sAug i op f ρ n = M.bind (eVar i ρ) (fun a => M.bind (f ρ) fun b => M.bind (M.opt (op a b)) fun d => M.pure (.nx (ρ.set i (.val d)))) n := (rfl)
@[simp] theorem sUp_ap (i : Nat) (up : D → D → Option D) (f : EX) (ρ : Env) (n : Int) : sUp i up f ρ n = M.bind (f ρ) (fun d => M.bind (M.opt ((own? ρ i).bind (up d))) fun o => M.pure (.nx (ρ.set i (.own o)))) n := (rfl)
@[simp] theorem sPar_ap (is : List Nat) (f : EXs) (ρ : Env) (n : Int) : sPar is f ρ n = M.bind (f ρ) (fun ds => if ds.length = is.length then M.pure (.nx ((is.zip ds).foldl (fun r p => r.set p.1 (.val p.2)) ρ)) else M.opt none) n := (rfl)
@[simp] theorem own_0 (d : D) (r : Env) : own? (.own d :: r) 0 = some d := (rfl)
@[simp] theorem own_s (i : Nat) (s : Sl) (r : Env) : own? (s :: r) (i + 1) = own? r i := (rfl)
@[simp] theorem gV_ap (i : Nat) (d : D) (ρ : Env) : gV i d ρ = some (ρ.set i (.val d)) := (rfl)
@[simp] theorem gT_ap (g : GXs) (ds : List D) (ρ : Env) : gT g (.tup ds) ρ = g ds ρ := (rfl)
@[simp] theorem gsN_ap (ρ : Env) : gsN [] ρ = some ρ := (rfl)
@[simp] theorem gsC_ap (g : GX) (gs : GXs) (d : D) (r : List D) (ρ : Env) : gsC g gs (d :: r) ρ = (g d ρ).bind fun ρ1 => gs r ρ1 := (rfl)
@[simp] theorem iOf_ap (f : EX) (ρ : Env) (n : Int) : iOf f ρ n = M.bind (f ρ) (fun d => M.opt (dItems d)) n := (rfl)
@[simp] theorem iRng1D_ap (f : EXs) (ρ : Env) (n : Int) : iRng1D f ρ n = M.bind (f ρ) (fun ds => M.opt (dRng1 ds)) n := (rfl)
@[simp] theorem iRng2D_ap (f : EXs) (ρ : Env) (n : Int) : iRng2D f ρ n = M.bind (f ρ) (fun ds => M.opt (dRng2 ds)) n := (rfl)
@[simp] theorem dItems_tup (ds : List D) : dItems (.tup ds) = some ds := (rfl)
@[simp] theorem dItems_lst (ds : List D) : dItems (.lst ds) = some ds := (rfl)
@[simp] theorem eComp_ap (vs : List Nat) (g : GX) (it : IX) (t : TX) (f : EX) (ρ : Env) (n : Int) : eComp vs g it t f ρ n = M.bind (it ρ) (fun ds => M.bind (compD (compB vs g t f ρ) ds) fun ys => M.opt (mkLst ys)) n := (rfl)
@[simp] theorem compB_ap (vs : List Nat) (g : GX) (t : TX) (f : EX) (ρ : Env) (d : D) (n : Int) : compB vs g t f ρ d n = M.bind (M.opt (g d (hide (wipeD ρ vs)))) (fun ρ1 => M.bind (t ρ1) fun b => selB b (M.bind (f ρ1) fun y => M.pure (some y)) (M.pure none)) n := (rfl)
@[simp] theorem hide_nil : hide [] = [] := (rfl)
@[simp] theorem hide_no (r : Env) : hide (.no :: r) = .no :: hide r := (rfl)
@[simp] theorem hide_val (d : D) (r : Env) : hide (.val d :: r) = .val d :: hide r := (rfl)
@[simp] theorem hide_own (d : D) (r : Env) : hide (.own d :: r) = .no :: hide r := (rfl)
@[simp] theorem wipeD_nil (ρ : Env) : wipeD ρ [] = ρ := (rfl)
@[simp] theorem wipeD_cons (ρ : Env) (v : Nat) (vs : List Nat) : wipeD ρ (v :: vs) = (wipeD ρ vs).set v .no := (rfl)
@[simp] theorem runD_ap (N P : Nat) (g : SX) (ds : List D) (n : Int) : runD N P g ds n = M.bind (g (ds.map Sl.val ++ List.replicate (N - P) Sl.no)) runK n := (rfl)
@[simp] theorem runI_ap (N P c : Nat) (g : SX) (ds : List D) (n : Int) : runI N P c g ds n = M.bind (g (Sl.own (.obj c [] []) :: ds.map Sl.val ++ List.replicate (N - P) Sl.no)) runIK n := (rfl)
@[simp] theorem forD_nil (g : GX) (b : SX) (ρ : Env) (n : Int) : forD g b [] ρ n = some (.ok (.nx ρ), n) := (rfl)
theorem forD_cons (g : GX) (b : SX) (d : D) (ds : List D) (ρ : Env) (n : Int) : forD g b (d :: ds) ρ n = M.bind (M.opt (g d ρ)) (fun ρ1 => M.bind (b ρ1) (turnK (forD g b ds))) n := (rfl)
theorem whileD_s (t : TX) (b : SX) (m : Nat) (ρ : Env) (n : Int) : whileD t b (m + 1) ρ n = M.bind (t ρ) (fun c => selB c (M.bind (b ρ) (turnK (whileD t b m))) (M.pure (.nx ρ))) n := by
  show M.bind (t ρ) _ n = M.bind (t ρ) _ n
  congr 1
  funext c
  cases c
  · rfl
  · show M.bind (b ρ) _ = M.bind (b ρ) _
    congr 1
theorem compD_nil (b : D → M (Option D)) (n : Int) : compD b [] n = some (.ok [], n) := (rfl)
theorem compD_cons (b : D → M (Option D)) (d : D) (ds : List D) (n : Int) : compD b (d :: ds) n = M.bind (b d) (fun y => M.bind (compD b ds) fun ys => M.pure (consO y ys)) n := (rfl)
theorem small62_of {i : Int} (h : -1000000 ≤ i) (h2 : i ≤ 1000000) : small62 i = true := by
  unfold small62
  simp only [Bool.and_eq_true, decide_eq_true_eq]
  exact ⟨by omega, by omega⟩
theorem small64_of {i : Int} (h : -1000000 ≤ i) (h2 : i ≤ 1000000) : small64 i = true := by
  unfold small64
  simp only [Bool.and_eq_true, decide_eq_true_eq]
  exact ⟨by omega, by omega⟩
theorem dRng1_ok {j : Int} (h : -1000000 ≤ j) (h2 : j ≤ 1000000) : dRng1 [.int j] = some (rngD 0 j) := if_pos (small62_of h h2)
theorem dRng2_ok {i j : Int} (h : -1000000 ≤ i) (h2 : i ≤ 1000000) (h3 : -1000000 ≤ j) (h4 : j ≤ 1000000) : dRng2 [.int i, .int j] = some (rngD i j) := if_pos (by rw [small62_of h h2, small62_of h3 h4]; rfl)
theorem szl : sizeLine = 16777216 := sizeLine_eq
@[simp] theorem mkTup_of {ds : List D} (h : ds.length ≤ 16777216) : mkTup ds = some (.tup ds) := by
  unfold mkTup gz; rw [sizeLine_eq, decide_eq_true h]; rfl
@[simp] theorem mkLst_of {ds : List D} (h : ds.length ≤ 16777216) : mkLst ds = some (.lst ds) := by
  unfold mkLst gz; rw [sizeLine_eq, decide_eq_true h]; rfl
/-! ### comprehensions, loops -/
/-- a comprehension whose elements don't draw -/
theorem compD_map (b : D → M (Option D)) (f : D → Option D) (n : Int) : ∀ ds : List D, (∀ d ∈ ds, b d n = some (.ok (f d), n)) → compD b ds n = some (.ok (ds.filterMap f), n)
  | [], _ => rfl
  | d :: ds, h => by
    have h1 := h d List.mem_cons_self
    have h2 := compD_map b f n ds fun x hx => h x (List.mem_cons_of_mem _ hx)
    rw [compD_cons]
    simp only [bind_ap, h1, h2, pure_ap, List.filterMap_cons, bindR_ok]
    cases f d <;> rfl
/-- a loop that searches: it leaves with a value at the first hit -/
theorem forD_find (i : Nat) (b : SX) (p : D → Bool) (r : D → D) (ρ : Env) (n : Int) : ∀ (ds : List D) (s0 : Sl), (∀ d ∈ ds, b (ρ.set i (.val d)) n = some (.ok (if p d then .ret (r d) else .nx (ρ.set i (.val d))), n)) →
    ∃ s, forD (gV i) b ds (ρ.set i s0) n = some (.ok (findK (ds.find? p) r (ρ.set i s)), n)
  | [], s0, _ => ⟨s0, rfl⟩
  | d :: ds, s0, h => by
    have h1 := h d List.mem_cons_self
    obtain ⟨s, h2⟩ := forD_find i b p r ρ n ds (.val d) fun x hx => h x (List.mem_cons_of_mem _ hx)
    rw [forD_cons]
    simp only [bind_ap, gV_ap, opt_some, List.set_set, h1, bindR_ok]
    cases hp : p d with
    | true => exact ⟨s0, by simp [hp]⟩
    | false => exact ⟨s, by simp [hp, h2]⟩
/-- a loop that checks: it goes through -/
theorem forD_all (i : Nat) (b : SX) (ρ : Env) (n : Int) (ds : List D) (s0 : Sl) (h : ∀ d ∈ ds, b (ρ.set i (.val d)) n = some (.ok (.nx (ρ.set i (.val d))), n)) :
    ∃ s, forD (gV i) b ds (ρ.set i s0) n = some (.ok (.nx (ρ.set i s)), n) := by
  obtain ⟨s, e⟩ := forD_find i b (fun _ => false) (fun d => d) ρ n ds s0 (fun d hd => by rw [h d hd]; rfl)
  refine ⟨s, ?_⟩
  rw [e]
  have : ds.find? (fun _ => false) = none := by simp
  rw [this, findK_none]
theorem mem_rngD {d : D} {lo hi : Int} (h : d ∈ rngD lo hi) : ∃ i : Int, d = .int i ∧ lo ≤ i ∧ i < hi := by
  unfold rngD at h
  obtain ⟨k, hk, e⟩ := List.mem_map.mp h
  rw [List.mem_range] at hk
  exact ⟨lo + k, e.symm, by omega, by omega⟩

/-! ### data that is compared -/
class PyE (α : Type) where
  enc : α → D
  py : α → PyData
  to : ∀ x, toPy (enc x) = some (py x)
  lay : ∀ x, (py x).canLay0 = true
  dep : ∀ x, (py x).depth ≤ 8
  eqv : ∀ x y, PyData.eqv (py x) (py y) = true ↔ x = y
theorem PyE.toAll {α : Type} [PyE α] : ∀ xs : List α, toPys (xs.map PyE.enc) = some (xs.map PyE.py)
  | [] => by simp [toPys]
  | x :: xs => by
    rw [List.map_cons, List.map_cons]
    unfold toPys
    rw [PyE.to, PyE.toAll xs]
theorem PyE.layAll {α : Type} [PyE α] : ∀ xs : List α, PyData.canLayAll0 (xs.map PyE.py) = true
  | [] => by simp [PyData.canLayAll0]
  | x :: xs => by
    rw [List.map_cons]
    unfold PyData.canLayAll0
    rw [PyE.lay, PyE.layAll xs]; rfl
theorem PyE.depAll {α : Type} [PyE α] : ∀ xs : List α, PyData.depthAll (xs.map PyE.py) ≤ 8
  | [] => by simp [PyData.depthAll]
  | x :: xs => by
    rw [List.map_cons]
    unfold PyData.depthAll
    have := PyE.dep x
    have := PyE.depAll xs
    omega
theorem PyE.eqvAll {α : Type} [PyE α] : ∀ xs ys : List α, PyData.eqvAll (xs.map PyE.py) (ys.map PyE.py) = true ↔ xs = ys
  | [], [] => by simp [PyData.eqvAll]
  | [], y :: ys => by simp [PyData.eqvAll]
  | x :: xs, [] => by simp [PyData.eqvAll]
  | x :: xs, y :: ys => by
    rw [List.map_cons, List.map_cons]
    unfold PyData.eqvAll
    rw [Bool.and_eq_true, PyE.eqv, PyE.eqvAll xs ys]
    simp
theorem PyE.shaped {α : Type} [PyE α] (x : α) : SeqAt.shaped (PyE.py x) = true := by
  unfold SeqAt.shaped
  have := PyE.dep x
  rw [PyE.lay]; simp; omega
theorem bool_dec {b : Bool} {p : Prop} [Decidable p] (h : b = true ↔ p) : b = decide p := by
  by_cases q : p
  · rw [decide_eq_true q]; exact h.mpr q
  · rw [decide_eq_false q]
    cases b with
    | true => exact absurd (h.mp rfl) q
    | false => rfl
theorem dEqB_enc {α : Type} [PyE α] [DecidableEq α] (x y : α) : dEqB (PyE.enc x) (PyE.enc y) = some (decide (x = y)) := by
  unfold dEqB
  simp only [PyE.to, PyE.shaped, Bool.and_self, if_true]
  rw [bool_dec (PyE.eqv x y)]
theorem dEq_enc {α : Type} [PyE α] [DecidableEq α] (x y : α) : dEq (PyE.enc x) (PyE.enc y) = some (.bl (decide (x = y))) := by
  unfold dEq; rw [dEqB_enc]
theorem dNe_enc {α : Type} [PyE α] [DecidableEq α] (x y : α) : dNe (PyE.enc x) (PyE.enc y) = some (.bl (!decide (x = y))) := by
  unfold dNe; rw [dEqB_enc]
/-- tuples and lists of such -/
def encT {α : Type} [PyE α] (xs : List α) : D := .tup (xs.map PyE.enc)
def encL {α : Type} [PyE α] (xs : List α) : D := .lst (xs.map PyE.enc)
theorem dEqB_T {α : Type} [PyE α] [DecidableEq α] (x y : List α) : dEqB (encT x) (encT y) = some (decide (x = y)) := by
  unfold dEqB encT
  have s : ∀ x : List α, SeqAt.shaped (.tuple (x.map PyE.py)) = true := fun x => by
    unfold SeqAt.shaped PyData.canLay0 PyData.depth
    have := PyE.depAll x
    rw [PyE.layAll]; simp; omega
  unfold toPy
  rw [PyE.toAll, PyE.toAll]
  simp only [s, Bool.and_self, if_true]
  unfold PyData.eqv
  rw [bool_dec (PyE.eqvAll x y)]
theorem dEqB_L {α : Type} [PyE α] [DecidableEq α] (x y : List α) : dEqB (encL x) (encL y) = some (decide (x = y)) := by
  unfold dEqB encL
  have s : ∀ x : List α, SeqAt.shaped (.list (x.map PyE.py)) = true := fun x => by
    unfold SeqAt.shaped PyData.canLay0 PyData.depth
    have := PyE.depAll x
    rw [PyE.layAll]; simp; omega
  unfold toPy
  rw [PyE.toAll, PyE.toAll]
  simp only [s, Bool.and_self, if_true]
  unfold PyData.eqv
  rw [bool_dec (PyE.eqvAll x y)]
theorem dEq_T {α : Type} [PyE α] [DecidableEq α] (x y : List α) : dEq (encT x) (encT y) = some (.bl (decide (x = y))) := by unfold dEq; rw [dEqB_T]
theorem dNe_T {α : Type} [PyE α] [DecidableEq α] (x y : List α) : dNe (encT x) (encT y) = some (.bl (!decide (x = y))) := by unfold dNe; rw [dEqB_T]
theorem dEq_L {α : Type} [PyE α] [DecidableEq α] (x y : List α) : dEq (encL x) (encL y) = some (.bl (decide (x = y))) := by unfold dEq; rw [dEqB_L]
theorem dNe_L {α : Type} [PyE α] [DecidableEq α] (x y : List α) : dNe (encL x) (encL y) = some (.bl (!decide (x = y))) := by unfold dNe; rw [dEqB_L]
instance : PyE Int where
  enc := D.int
  py := PyData.int
  to := fun x => by unfold toPy; rfl
  lay := fun x => by unfold PyData.canLay0; rfl
  dep := fun x => by unfold PyData.depth; omega
  eqv := fun x y => by unfold PyData.eqv; simp
@[simp] theorem dEq_int (i j : Int) : dEq (.int i) (.int j) = some (.bl (decide (i = j))) := dEq_enc (α := Int) i j
@[simp] theorem dNe_int (i j : Int) : dNe (.int i) (.int j) = some (.bl (!decide (i = j))) := dNe_enc (α := Int) i j
@[simp] theorem dLt_int (i j : Int) : dLt (.int i) (.int j) = some (.bl (decide (i < j))) := (rfl)
@[simp] theorem dLe_int (i j : Int) : dLe (.int i) (.int j) = some (.bl (decide (i ≤ j))) := (rfl)
@[simp] theorem dGt_int (i j : Int) : dGt (.int i) (.int j) = some (.bl (decide (j < i))) := (rfl)
@[simp] theorem dGe_int (i j : Int) : dGe (.int i) (.int j) = some (.bl (decide (j ≤ i))) := (rfl)
@[simp] theorem dAdd_int (i j : Int) : dAdd (.int i) (.int j) = some (.int (i + j)) := (rfl)
@[simp] theorem dSub_int (i j : Int) : dSub (.int i) (.int j) = some (.int (i - j)) := (rfl)
@[simp] theorem dNeg_int (i : Int) : dNeg (.int i) = some (.int (-i)) := (rfl)
theorem dMul_int {i j : Int} (h : small64 i = true ∨ small64 j = true) : dMul (.int i) (.int j) = some (.int (i * j)) := by
  exact if_pos (by rw [Bool.or_eq_true]; exact h)
theorem dMod_int {i j : Int} (h : 0 < j) : dMod (.int i) (.int j) = some (.int (i % j)) := by
  exact if_pos (decide_eq_true h)
theorem dDiv_int {i j : Int} (h : 0 < j) (h2 : j < 1073741824) : dDiv (.int i) (.int j) = some (.int (i / j)) := by
  exact if_pos (by simp only [Bool.and_eq_true, decide_eq_true_eq]; exact ⟨h, h2⟩)
@[simp] theorem dLen_tup (xs : List D) : dLen [.tup xs] = some (.int xs.length) := (rfl)
@[simp] theorem dLen_lst (xs : List D) : dLen [.lst xs] = some (.int xs.length) := (rfl)
@[simp] theorem dLen_T {α : Type} [PyE α] (xs : List α) : dLen [encT xs] = some (.int xs.length) := by simp [encT]
theorem dAdd_T {α : Type} [PyE α] {xs ys : List α} (h : xs.length + ys.length ≤ 16777216) : dAdd (encT xs) (encT ys) = some (encT (xs ++ ys)) := by
  unfold dAdd encT
  simp only [← List.map_append]
  rw [mkTup_of (by simpa using h)]
theorem rep_map {α β : Type} (f : α → β) (xs : List α) (k : Nat) : (List.replicate k (xs.map f)).flatten = ((List.replicate k xs).flatten).map f := by
  induction k with
  | zero => rfl
  | succ k ih => rw [List.replicate_succ, List.replicate_succ, List.flatten_cons, List.flatten_cons, ih, List.map_append]
/-- xs, k times -/
def pw {α : Type} (xs : List α) (k : Nat) : List α := (List.replicate k xs).flatten
theorem pw_zero {α : Type} (xs : List α) : pw xs 0 = [] := rfl
theorem pw_succ {α : Type} (xs : List α) (k : Nat) : pw xs (k + 1) = xs ++ pw xs k := by unfold pw; rw [List.replicate_succ, List.flatten_cons]
theorem pw_length {α : Type} (xs : List α) : ∀ k : Nat, (pw xs k).length = k * xs.length
  | 0 => by simp [pw_zero]
  | k + 1 => by rw [pw_succ, List.length_append, pw_length xs k, Nat.succ_mul]; omega
theorem dMul_T {α : Type} [PyE α] {xs : List α} {k : Nat} (h : k ≤ 1000) (h2 : xs.length ≤ 1000) : dMul (encT xs) (.int k) = some (encT (pw xs k)) := by
  unfold dMul encT pw
  have a : ((xs.length : Nat) : Int) * (k : Int) ≤ 1000000 := by
    have : xs.length * k ≤ 1000 * 1000 := Nat.mul_le_mul h2 h
    have : ((xs.length * k : Nat) : Int) ≤ 1000000 := by omega
    rw [Int.natCast_mul] at this; exact this
  refine (if_pos (by simp only [List.length_map, Bool.and_eq_true, decide_eq_true_eq]; exact ⟨⟨by omega, by omega⟩, a⟩)).trans ?_
  rw [Int.toNat_natCast, rep_map]
theorem cut_map {α : Type} [PyE α] (xs : List α) (lo hi : Option Int) : dCut (encT xs) lo hi = some (encT ((xs.drop (HT.sIx xs.length 0 lo)).take (HT.sIx xs.length xs.length hi - HT.sIx xs.length 0 lo))) := by
  unfold dCut encT cutD
  simp only [List.length_map, List.map_take, List.map_drop]
theorem sIx_neg1 (n d : Nat) : HT.sIx n d (some (-1)) = n - 1 := by
  unfold HT.sIx
  simp
  omega
@[simp] theorem cut_from {α : Type} [PyE α] (xs : List α) (k : Nat) : dCut (encT xs) (some (k : Int)) none = some (encT (xs.drop k)) := by
  rw [cut_map, HT.sIx_nat, HT.sIx_none]
  congr 2
  by_cases h : k ≤ xs.length
  · rw [Nat.min_eq_left h, List.take_of_length_le (by simp)]
  · rw [Nat.min_eq_right (by omega), List.drop_eq_nil_of_le (by omega), List.drop_eq_nil_of_le (by omega)]; simp
@[simp] theorem cut_to {α : Type} [PyE α] (xs : List α) (k : Nat) : dCut (encT xs) none (some (k : Int)) = some (encT (xs.take k)) := by
  rw [cut_map, HT.sIx_nat, HT.sIx_none]
  congr 2
  simp only [List.drop_zero, Nat.sub_zero]
  by_cases h : k ≤ xs.length
  · rw [Nat.min_eq_left h]
  · rw [Nat.min_eq_right (by omega), List.take_of_length_le (by omega), List.take_of_length_le (by omega)]
@[simp] theorem cut_last {α : Type} [PyE α] (xs : List α) : dCut (encT xs) (some (-1)) none = some (encT (xs.drop (xs.length - 1))) := by
  rw [cut_map, sIx_neg1, HT.sIx_none]
  congr 2
  rw [List.take_of_length_le (by simp)]
@[simp] theorem cut_init {α : Type} [PyE α] (xs : List α) : dCut (encT xs) none (some (-1)) = some (encT xs.dropLast) := by
  rw [cut_map, sIx_neg1, HT.sIx_none]
  congr 2
  rw [List.drop_zero, Nat.sub_zero, List.dropLast_eq_take]
theorem ix_last {α : Type} [PyE α] {xs : List α} {x : α} (h : xs.getLast? = some x) : dIx (encT xs) (.int (-1)) = some (PyE.enc x) := by
  unfold dIx encT
  rw [List.getLast?_eq_some_iff] at h
  obtain ⟨ys, rfl⟩ := h
  rw [List.map_append]
  exact atI_last _ _
theorem ix_nat {α : Type} [PyE α] {xs : List α} {x : α} {j : Nat} (h : xs[j]? = some x) : dIx (encT xs) (.int (j : Int)) = some (PyE.enc x) := by
  unfold dIx encT
  exact atI_nat (by rw [List.getElem?_map, h]; rfl)
theorem dNe_nil {α : Type} [PyE α] [DecidableEq α] (xs : List α) : dNe (encT xs) (.tup []) = some (.bl (!decide (xs = []))) := dNe_T xs []
theorem dEq_nil {α : Type} [PyE α] [DecidableEq α] (xs : List α) : dEq (encT xs) (.tup []) = some (.bl (decide (xs = []))) := dEq_T xs []
theorem ix_lastc {α : Type} [PyE α] (xs : List α) (x : α) : dIx (encT (xs ++ [x])) (.int (-1)) = some (PyE.enc x) := ix_last (by simp)
theorem cut_lastc {α : Type} [PyE α] (xs : List α) (x : α) : dCut (encT (xs ++ [x])) (some (-1)) none = some (encT [x]) := by
  rw [cut_last]
  congr 2
  simp
theorem cut_initc {α : Type} [PyE α] (xs : List α) (x : α) : dCut (encT (xs ++ [x])) none (some (-1)) = some (encT xs) := by
  rw [cut_init, List.dropLast_concat]
/-- a loop by what holds between two turns -/
theorem forD_inv (g : GX) (b : SX) (I : Env → Int → Prop) : ∀ (ds : List D), (∀ d ∈ ds, ∀ ρ n, I ρ n → ∃ ρ1 ρ2 n2, g d ρ = some ρ1 ∧ b ρ1 n = some (.ok (.nx ρ2), n2) ∧ I ρ2 n2) → ∀ ρ n, I ρ n → ∃ ρ' n', forD g b ds ρ n = some (.ok (.nx ρ'), n') ∧ I ρ' n'
  | [], _, ρ, n, h => ⟨ρ, n, rfl, h⟩
  | d :: ds, hb, ρ, n, h => by
    obtain ⟨ρ1, ρ2, n2, h1, h2, h3⟩ := hb d List.mem_cons_self ρ n h
    obtain ⟨ρ', n', h4, h5⟩ := forD_inv g b I ds (fun x hx => hb x (List.mem_cons_of_mem _ hx)) ρ2 n2 h3
    exact ⟨ρ', n', by rw [forD_cons]; simp [h1, h2, h4], h5⟩
/-- a comprehension whose elements may draw -/
theorem compD_ex {α : Type} [PyE α] (b : D → M (Option D)) : ∀ (ds : List D) (n : Int), (∀ d ∈ ds, ∀ n, ∃ x : α, ∃ n', b d n = some (.ok (some (PyE.enc x)), n')) → ∃ xs : List α, ∃ n', compD b ds n = some (.ok (xs.map PyE.enc), n') ∧ xs.length = ds.length
  | [], n, _ => ⟨[], n, rfl, rfl⟩
  | d :: ds, n, h => by
    obtain ⟨x, n1, h1⟩ := h d List.mem_cons_self n
    obtain ⟨xs, n2, h2, h3⟩ := compD_ex b ds n1 fun y hy => h y (List.mem_cons_of_mem _ hy)
    exact ⟨x :: xs, n2, by rw [compD_cons]; simp [h1, h2], by simp [h3]⟩
theorem rngD_length (lo hi : Int) : (rngD lo hi).length = (hi - lo).toNat := by simp [rngD]
theorem dEqB_bl (a b : Bool) : dEqB (.bl a) (.bl b) = some (a == b) := by
  unfold dEqB toPy
  have s : ∀ a : Bool, SeqAt.shaped (.bool a) = true := fun a => by cases a <;> decide +kernel
  simp only [s, Bool.and_self, if_true]
  unfold PyData.eqv
  rfl
@[simp] theorem dNe_bl (a b : Bool) : dNe (.bl a) (.bl b) = some (.bl (!(a == b))) := by unfold dNe; rw [dEqB_bl]
@[simp] theorem dEq_bl (a b : Bool) : dEq (.bl a) (.bl b) = some (.bl (a == b)) := by unfold dEq; rw [dEqB_bl]
@[simp] theorem dNe_non : dNe .non .non = some (.bl false) := by
  have : dEqB .non .non = some true := by unfold dEqB toPy; decide +kernel
  unfold dNe; rw [this]; rfl
end DL
end

section
set_option Elab.async false
set_option linter.all false
set_option autoImplicit false
set_option maxRecDepth 100000
namespace K02
open DL PySem L2 P_k02_whole_kinds PyProof.Rows
theorem atI_in {α : Type} (xs : List α) (j : Int) (h0 : 0 ≤ j) (h1 : j < xs.length) : ∃ x, atI xs j = some x := by
  obtain ⟨k, rfl⟩ : ∃ k : Nat, j = (k : Int) := ⟨j.toNat, by omega⟩
  have : k < xs.length := by omega
  exact ⟨xs[k], atI_nat (by simp [this])⟩
theorem mul_r (i j : Int) (h : -1000000 ≤ j) (h2 : j ≤ 1000000) : dMul (.int i) (.int j) = some (.int (i * j)) := dMul_int (.inr (small64_of h h2))
theorem mul_l (i j : Int) (h : -1000000 ≤ i) (h2 : i ≤ 1000000) : dMul (.int i) (.int j) = some (.int (i * j)) := dMul_int (.inl (small64_of h h2))
theorem number_ok (W : Wd) (i n : Int) : ∃ v : Int, f__law_number W [.scr, .int i] n = some (.ok (.int v), n) := by
  have m1 := fun x => mul_r x 48271 (by omega) (by omega)
  have m2 := fun x => mul_r x 69621 (by omega) (by omega)
  have m3 := fun x => mul_r x 16807 (by omega) (by omega)
  have m4 := fun x => mul_l 977 x (by omega) (by omega)
  have m5 := fun x => mul_l 31 x (by omega) (by omega)
  have d1 := fun x => dMod_int (i := x) (j := 2147483647) (by omega)
  have d2 := fun x => dMod_int (i := x) (j := 2147483629) (by omega)
  have d3 := fun x => dMod_int (i := x) (j := 2147483587) (by omega)
  have nil : dScrNil W .scr (.lst []) = some (.bl W.ns.isEmpty) := rfl
  have len : dLenS W [.scr] = some (.int W.ns.length) := rfl
  have int : ∀ x, dInt [.int x] = some (.int x) := fun _ => rfl
  cases he : W.ns.isEmpty with
  | true =>
    rw [he] at nil
    simp only [f__law_number, g__law_number]
    simp [nil, m1, d1, int]
  | false =>
    rw [he] at nil
    have hl : 0 < W.ns.length := by
      cases hn : W.ns with
      | nil => rw [hn] at he; cases he
      | cons a b => simp
    have hl' : (0 : Int) < (W.ns.length : Int) := by omega
    have d0 := fun x => dMod_int (i := x) (j := (W.ns.length : Int)) hl'
    obtain ⟨x, hx⟩ := atI_in W.ns (i % (W.ns.length : Int)) (Int.emod_nonneg _ (by omega)) (Int.emod_lt_of_pos _ hl')
    have ix : dIxS W .scr (.int (i % (W.ns.length : Int))) = some (.int x) := by
      show (atI W.ns _).map D.int = _
      rw [hx]; rfl
    obtain ⟨p60, e60⟩ : ∃ p60 : Int, dPow (.int 10) (.int 60) = some (.int p60) := ⟨_, rfl⟩
    have e18 : dPow (.int 10) (.int 18) = some (.int 1000000000000000000) := rfl
    have d18 := fun x => dMod_int (i := x) (j := 1000000000000000000) (by omega)
    have ab : dAbs [.int x] = some (.int (if x < 0 then -x else x)) := rfl
    obtain ⟨y, hy⟩ : ∃ y, y = (if x < 0 then -x else x) := ⟨_, rfl⟩
    rw [← hy] at ab
    simp only [f__law_number, g__law_number]
    by_cases hb : p60 ≤ y
    · simp [nil, len, d0, ix, ab, e60, hb, e18, d18, m4, m1, m5, d1, m2, d2, m3, d3, int]
    · simp [nil, len, d0, ix, ab, e60, hb, m4, m1, m5, d1, m2, d2, m3, d3, int]
theorem take_ok (W : Wd) (m n : Int) (h : 0 < m) : ∃ v : Int, 0 ≤ v ∧ v < m ∧ f__law_take W [.drw, .int m] n = some (.ok (.int v), n + 1) := by
  obtain ⟨v, hv⟩ := number_ok W (n + 1) (n + 1)
  refine ⟨v % m, Int.emod_nonneg _ (by omega), Int.emod_lt_of_pos _ h, ?_⟩
  have int : ∀ x, dInt [.int x] = some (.int x) := fun _ => rfl
  have s1 : ∀ n, sDrw (eVar 0) [.val .drw, .val (.int m)] n = some (.ok (.nx [.val .drw, .val (.int m)]), n + 1) := fun n => rfl
  have s2 : ∀ n, eDrw0 (eVar 0) [.val .drw, .val (.int m)] n = some (.ok .scr, n) := fun n => rfl
  have s3 : ∀ n, eDrw1 (eVar 0) [.val .drw, .val (.int m)] n = some (.ok (.int n), n) := fun n => rfl
  simp only [f__law_take, g__law_take]
  simp [s1, s2, s3, int, hv, dMod_int h]

theorem ixA_lst (ds : List D) (i : Int) : dIxA (.lst ds) (.int i) = atI ds i := rfl
theorem pick_ok (W : Wd) (ds : List D) (h : ds ≠ []) (n : Int) : ∃ d ∈ ds, f__law_pick W [.drw, .lst ds] n = some (.ok d, n + 1) := by
  have hl : 0 < ds.length := List.length_pos_iff.mpr h
  obtain ⟨v, h0, h1, hv⟩ := take_ok W ds.length n (by omega)
  obtain ⟨k, rfl⟩ : ∃ k : Nat, v = (k : Int) := ⟨v.toNat, by omega⟩
  have hk : k < ds.length := by omega
  have ix : dIxA (.lst ds) (.int (k : Int)) = some ds[k] := (ixA_lst ds k).trans (atI_nat (by simp [hk]))
  refine ⟨ds[k], List.getElem_mem hk, ?_⟩
  simp only [f__law_pick, g__law_pick]
  simp [hv, ix]
end K02
end

section
set_option Elab.async false
set_option linter.all false
set_option autoImplicit false
set_option maxRecDepth 100000
namespace K02
open DL PySem L2 P_k02_whole_kinds PyProof.Rows
/-! the table, as read from it by N02.py -/
def nm : Fin 29 → Str := fun i => (["k", "p", "ktbl", "ptbl", "sl", "slf", "yo", "co", "bo", "kfb", "pfb", "m1l", "m1r", "m1lp", "m1rp", "k2tog", "ssk", "p2tog", "ssp", "cdd", "cddp", "c2f", "c2b", "c2fw", "c2bw", "c4f", "c4b", "c4fw", "c4bw"] : List Str)[i]
def tk : Fin 29 → Int := fun i => ([1, 1, 1, 1, 1, 1, 0, 0, 1, 1, 1, 0, 0, 0, 0, 2, 2, 2, 2, 3, 3, 2, 2, 2, 2, 4, 4, 4, 4] : List Int)[i]
def mk : Fin 29 → Int := fun i => ([1, 1, 1, 1, 1, 1, 1, 1, 0, 2, 2, 1, 1, 1, 1, 1, 1, 1, 1, 1, 1, 2, 2, 2, 2, 4, 4, 4, 4] : List Int)[i]
def bk : Fin 29 → (Fin 29) := fun i => ([1, 0, 3, 2, 5, 4, 6, 7, 8, 10, 9, 13, 14, 11, 12, 17, 18, 15, 16, 20, 19, 23, 24, 21, 22, 27, 28, 25, 26] : List (Fin 29))[i]
def mr : Fin 29 → (Fin 29) := fun i => ([0, 1, 2, 3, 4, 5, 6, 7, 8, 9, 10, 12, 11, 14, 13, 16, 15, 18, 17, 19, 20, 22, 21, 24, 23, 26, 25, 28, 27] : List (Fin 29))[i]
def row (i : Fin 29) : D := .tup [.int (tk i), .int (mk i), .str (nm (bk i)), .str (nm (mr i))]
def KT : D := .dic (tb_KINDS.map fun q => .inr q.1) (tb_KINDS.map (·.2))
def rk (z : Str) : Nat := match tb_KINDS.findIdx? (fun q => q.1 == z) with | some i => i | none => 29
theorem rk_nm : ∀ i : Fin 29, rk (nm i) = i.1
  | ⟨0, _⟩ => by kernel_rfl
  | ⟨1, _⟩ => by kernel_rfl
  | ⟨2, _⟩ => by kernel_rfl
  | ⟨3, _⟩ => by kernel_rfl
  | ⟨4, _⟩ => by kernel_rfl
  | ⟨5, _⟩ => by kernel_rfl
  | ⟨6, _⟩ => by kernel_rfl
  | ⟨7, _⟩ => by kernel_rfl
  | ⟨8, _⟩ => by kernel_rfl
  | ⟨9, _⟩ => by kernel_rfl
  | ⟨10, _⟩ => by kernel_rfl
  | ⟨11, _⟩ => by kernel_rfl
  | ⟨12, _⟩ => by kernel_rfl
  | ⟨13, _⟩ => by kernel_rfl
  | ⟨14, _⟩ => by kernel_rfl
  | ⟨15, _⟩ => by kernel_rfl
  | ⟨16, _⟩ => by kernel_rfl
  | ⟨17, _⟩ => by kernel_rfl
  | ⟨18, _⟩ => by kernel_rfl
  | ⟨19, _⟩ => by kernel_rfl
  | ⟨20, _⟩ => by kernel_rfl
  | ⟨21, _⟩ => by kernel_rfl
  | ⟨22, _⟩ => by kernel_rfl
  | ⟨23, _⟩ => by kernel_rfl
  | ⟨24, _⟩ => by kernel_rfl
  | ⟨25, _⟩ => by kernel_rfl
  | ⟨26, _⟩ => by kernel_rfl
  | ⟨27, _⟩ => by kernel_rfl
  | ⟨28, _⟩ => by kernel_rfl
  | ⟨k + 29, h⟩ => absurd h (by omega)
theorem ixK : ∀ i : Fin 29, dIxK tb_KINDS (.str (nm i)) = some (row i)
  | ⟨0, _⟩ => by kernel_rfl
  | ⟨1, _⟩ => by kernel_rfl
  | ⟨2, _⟩ => by kernel_rfl
  | ⟨3, _⟩ => by kernel_rfl
  | ⟨4, _⟩ => by kernel_rfl
  | ⟨5, _⟩ => by kernel_rfl
  | ⟨6, _⟩ => by kernel_rfl
  | ⟨7, _⟩ => by kernel_rfl
  | ⟨8, _⟩ => by kernel_rfl
  | ⟨9, _⟩ => by kernel_rfl
  | ⟨10, _⟩ => by kernel_rfl
  | ⟨11, _⟩ => by kernel_rfl
  | ⟨12, _⟩ => by kernel_rfl
  | ⟨13, _⟩ => by kernel_rfl
  | ⟨14, _⟩ => by kernel_rfl
  | ⟨15, _⟩ => by kernel_rfl
  | ⟨16, _⟩ => by kernel_rfl
  | ⟨17, _⟩ => by kernel_rfl
  | ⟨18, _⟩ => by kernel_rfl
  | ⟨19, _⟩ => by kernel_rfl
  | ⟨20, _⟩ => by kernel_rfl
  | ⟨21, _⟩ => by kernel_rfl
  | ⟨22, _⟩ => by kernel_rfl
  | ⟨23, _⟩ => by kernel_rfl
  | ⟨24, _⟩ => by kernel_rfl
  | ⟨25, _⟩ => by kernel_rfl
  | ⟨26, _⟩ => by kernel_rfl
  | ⟨27, _⟩ => by kernel_rfl
  | ⟨28, _⟩ => by kernel_rfl
  | ⟨k + 29, h⟩ => absurd h (by omega)
theorem ixT : ∀ i : Fin 29, dIxA KT (.str (nm i)) = some (row i)
  | ⟨0, _⟩ => by kernel_rfl
  | ⟨1, _⟩ => by kernel_rfl
  | ⟨2, _⟩ => by kernel_rfl
  | ⟨3, _⟩ => by kernel_rfl
  | ⟨4, _⟩ => by kernel_rfl
  | ⟨5, _⟩ => by kernel_rfl
  | ⟨6, _⟩ => by kernel_rfl
  | ⟨7, _⟩ => by kernel_rfl
  | ⟨8, _⟩ => by kernel_rfl
  | ⟨9, _⟩ => by kernel_rfl
  | ⟨10, _⟩ => by kernel_rfl
  | ⟨11, _⟩ => by kernel_rfl
  | ⟨12, _⟩ => by kernel_rfl
  | ⟨13, _⟩ => by kernel_rfl
  | ⟨14, _⟩ => by kernel_rfl
  | ⟨15, _⟩ => by kernel_rfl
  | ⟨16, _⟩ => by kernel_rfl
  | ⟨17, _⟩ => by kernel_rfl
  | ⟨18, _⟩ => by kernel_rfl
  | ⟨19, _⟩ => by kernel_rfl
  | ⟨20, _⟩ => by kernel_rfl
  | ⟨21, _⟩ => by kernel_rfl
  | ⟨22, _⟩ => by kernel_rfl
  | ⟨23, _⟩ => by kernel_rfl
  | ⟨24, _⟩ => by kernel_rfl
  | ⟨25, _⟩ => by kernel_rfl
  | ⟨26, _⟩ => by kernel_rfl
  | ⟨27, _⟩ => by kernel_rfl
  | ⟨28, _⟩ => by kernel_rfl
  | ⟨k + 29, h⟩ => absurd h (by omega)
theorem nm_inj {i j : Fin 29} (h : nm i = nm j) : i = j := Fin.ext (by rw [← rk_nm i, ← rk_nm j, h])
theorem bk_bk : ∀ i, bk (bk i) = i := by decide +kernel
theorem mr_mr : ∀ i, mr (mr i) = i := by decide +kernel
theorem bk_mr : ∀ i, bk (mr i) = mr (bk i) := by decide +kernel
theorem tk_le : ∀ i, 0 ≤ tk i ∧ tk i ≤ 4 := by decide +kernel
theorem mk_le : ∀ i, 0 ≤ mk i ∧ mk i ≤ 4 := by decide +kernel
theorem seq_go {g h : SX} {ρ ρ1 : DL.Env} {n n1 : Int} {r : Option (Except Xc Out × Int)} (a : g ρ n = some (.ok (.nx ρ1), n1)) (b : h ρ1 n1 = r) : sSeq g h ρ n = r := by
  rw [sSeq_ap, bind_ap, a]; exact b
def KK0 : SX := (sOwn 0 (.dic [] []))
def KK1 : SX := (sAsg (gV 1) (eC (.str "k 1 1 p k, p 1 1 k p, ktbl 1 1 ptbl ktbl, ptbl 1 1 ktbl ptbl, sl 1 1 slf sl, slf 1 1 sl slf, yo 0 1 yo yo, co 0 1 co co, bo 1 0 bo bo, kfb 1 2 pfb kfb, pfb 1 2 kfb pfb, m1l 0 1 m1lp m1r, m1r 0 1 m1rp m1l, m1lp 0 1 m1l m1rp, m1rp 0 1 m1r m1lp, k2tog 2 1 p2tog ssk, ssk 2 1 ssp k2tog, p2tog 2 1 k2tog ssp, ssp 2 1 ssk p2tog, cdd 3 1 cddp cdd, cddp 3 1 cdd cddp, c2f 2 2 c2fw c2b, c2b 2 2 c2bw c2f, c2fw 2 2 c2f c2bw, c2bw 2 2 c2b c2fw, c4f 4 4 c4fw c4b, c4b 4 4 c4bw c4f, c4fw 4 4 c4f c4bw, c4bw 4 4 c4b c4fw")))
def KK2b0 : SX := (sAsg (gV 3) (e2 dSplit (eVar 2) (eC (.str " "))))
def KK2b1 : SX := (sPut 0 (e2 dIx (eVar 3) (eC (.int 0))) (eTup (eCons (eB dIntA (eCons (e2 dIx (eVar 3) (eC (.int 1))) eNil)) (eCons (eB dIntA (eCons (e2 dIx (eVar 3) (eC (.int 2))) eNil)) (eCons (e2 dIx (eVar 3) (eC (.int 3))) (eCons (e2 dIx (eVar 3) (eC (.int 4))) eNil))))))
def KK2b : SX := (sSeq (KK2b0) (KK2b1))
def KK2 : SX := (sFor (gV 2) (iOf (e2 dSplit (eVar 1) (eC (.str ", ")))) KK2b)
def KK3 : SX := (sFrz 0)
def KK4 : SX := (sRet (eVar 0))
def KK : SX := (sSeq (KK0) (sSeq (KK1) (sSeq (KK2) (sSeq (KK3) (KK4)))))
theorem KK_eq : g__law_kinds = KK := rfl

def rt : List Str := ["k 1 1 p k", "p 1 1 k p", "ktbl 1 1 ptbl ktbl", "ptbl 1 1 ktbl ptbl", "sl 1 1 slf sl", "slf 1 1 sl slf", "yo 0 1 yo yo", "co 0 1 co co", "bo 1 0 bo bo", "kfb 1 2 pfb kfb", "pfb 1 2 kfb pfb", "m1l 0 1 m1lp m1r", "m1r 0 1 m1rp m1l", "m1lp 0 1 m1l m1rp", "m1rp 0 1 m1r m1lp", "k2tog 2 1 p2tog ssk", "ssk 2 1 ssp k2tog", "p2tog 2 1 k2tog ssp", "ssp 2 1 ssk p2tog", "cdd 3 1 cddp cdd", "cddp 3 1 cdd cddp", "c2f 2 2 c2fw c2b", "c2b 2 2 c2bw c2f", "c2fw 2 2 c2f c2bw", "c2bw 2 2 c2b c2fw", "c4f 4 4 c4fw c4b", "c4b 4 4 c4bw c4f", "c4fw 4 4 c4f c4bw", "c4bw 4 4 c4b c4fw"]
def KTx : D := .str ("k 1 1 p k, p 1 1 k p, ktbl 1 1 ptbl ktbl, ptbl 1 1 ktbl ptbl, sl 1 1 slf sl, slf 1 1 sl slf, yo 0 1 yo yo, co 0 1 co co, bo 1 0 bo bo, kfb 1 2 pfb kfb, pfb 1 2 kfb pfb, m1l 0 1 m1lp m1r, m1r 0 1 m1rp m1l, m1lp 0 1 m1l m1rp, m1rp 0 1 m1r m1lp, k2tog 2 1 p2tog ssk, ssk 2 1 ssp k2tog, p2tog 2 1 k2tog ssp, ssp 2 1 ssk p2tog, cdd 3 1 cddp cdd, cddp 3 1 cdd cddp, c2f 2 2 c2fw c2b, c2b 2 2 c2bw c2f, c2fw 2 2 c2f c2bw, c2bw 2 2 c2b c2fw, c4f 4 4 c4fw c4b, c4b 4 4 c4bw c4f, c4fw 4 4 c4f c4bw, c4bw 4 4 c4b c4fw" : Str)
def sp5 (i : Nat) : Sl := match i with
  | 1 => .val (.lst [.str "k", .str "1", .str "1", .str "p", .str "k"])
  | 2 => .val (.lst [.str "p", .str "1", .str "1", .str "k", .str "p"])
  | 3 => .val (.lst [.str "ktbl", .str "1", .str "1", .str "ptbl", .str "ktbl"])
  | 4 => .val (.lst [.str "ptbl", .str "1", .str "1", .str "ktbl", .str "ptbl"])
  | 5 => .val (.lst [.str "sl", .str "1", .str "1", .str "slf", .str "sl"])
  | 6 => .val (.lst [.str "slf", .str "1", .str "1", .str "sl", .str "slf"])
  | 7 => .val (.lst [.str "yo", .str "0", .str "1", .str "yo", .str "yo"])
  | 8 => .val (.lst [.str "co", .str "0", .str "1", .str "co", .str "co"])
  | 9 => .val (.lst [.str "bo", .str "1", .str "0", .str "bo", .str "bo"])
  | 10 => .val (.lst [.str "kfb", .str "1", .str "2", .str "pfb", .str "kfb"])
  | 11 => .val (.lst [.str "pfb", .str "1", .str "2", .str "kfb", .str "pfb"])
  | 12 => .val (.lst [.str "m1l", .str "0", .str "1", .str "m1lp", .str "m1r"])
  | 13 => .val (.lst [.str "m1r", .str "0", .str "1", .str "m1rp", .str "m1l"])
  | 14 => .val (.lst [.str "m1lp", .str "0", .str "1", .str "m1l", .str "m1rp"])
  | 15 => .val (.lst [.str "m1rp", .str "0", .str "1", .str "m1r", .str "m1lp"])
  | 16 => .val (.lst [.str "k2tog", .str "2", .str "1", .str "p2tog", .str "ssk"])
  | 17 => .val (.lst [.str "ssk", .str "2", .str "1", .str "ssp", .str "k2tog"])
  | 18 => .val (.lst [.str "p2tog", .str "2", .str "1", .str "k2tog", .str "ssp"])
  | 19 => .val (.lst [.str "ssp", .str "2", .str "1", .str "ssk", .str "p2tog"])
  | 20 => .val (.lst [.str "cdd", .str "3", .str "1", .str "cddp", .str "cdd"])
  | 21 => .val (.lst [.str "cddp", .str "3", .str "1", .str "cdd", .str "cddp"])
  | 22 => .val (.lst [.str "c2f", .str "2", .str "2", .str "c2fw", .str "c2b"])
  | 23 => .val (.lst [.str "c2b", .str "2", .str "2", .str "c2bw", .str "c2f"])
  | 24 => .val (.lst [.str "c2fw", .str "2", .str "2", .str "c2f", .str "c2bw"])
  | 25 => .val (.lst [.str "c2bw", .str "2", .str "2", .str "c2b", .str "c2fw"])
  | 26 => .val (.lst [.str "c4f", .str "4", .str "4", .str "c4fw", .str "c4b"])
  | 27 => .val (.lst [.str "c4b", .str "4", .str "4", .str "c4bw", .str "c4f"])
  | 28 => .val (.lst [.str "c4fw", .str "4", .str "4", .str "c4f", .str "c4bw"])
  | 29 => .val (.lst [.str "c4bw", .str "4", .str "4", .str "c4b", .str "c4fw"])
  | _ => .no
def s2 (i : Nat) : Sl := match i with
  | 1 => .val (.str "k 1 1 p k")
  | 2 => .val (.str "p 1 1 k p")
  | 3 => .val (.str "ktbl 1 1 ptbl ktbl")
  | 4 => .val (.str "ptbl 1 1 ktbl ptbl")
  | 5 => .val (.str "sl 1 1 slf sl")
  | 6 => .val (.str "slf 1 1 sl slf")
  | 7 => .val (.str "yo 0 1 yo yo")
  | 8 => .val (.str "co 0 1 co co")
  | 9 => .val (.str "bo 1 0 bo bo")
  | 10 => .val (.str "kfb 1 2 pfb kfb")
  | 11 => .val (.str "pfb 1 2 kfb pfb")
  | 12 => .val (.str "m1l 0 1 m1lp m1r")
  | 13 => .val (.str "m1r 0 1 m1rp m1l")
  | 14 => .val (.str "m1lp 0 1 m1l m1rp")
  | 15 => .val (.str "m1rp 0 1 m1r m1lp")
  | 16 => .val (.str "k2tog 2 1 p2tog ssk")
  | 17 => .val (.str "ssk 2 1 ssp k2tog")
  | 18 => .val (.str "p2tog 2 1 k2tog ssp")
  | 19 => .val (.str "ssp 2 1 ssk p2tog")
  | 20 => .val (.str "cdd 3 1 cddp cdd")
  | 21 => .val (.str "cddp 3 1 cdd cddp")
  | 22 => .val (.str "c2f 2 2 c2fw c2b")
  | 23 => .val (.str "c2b 2 2 c2bw c2f")
  | 24 => .val (.str "c2fw 2 2 c2f c2bw")
  | 25 => .val (.str "c2bw 2 2 c2b c2fw")
  | 26 => .val (.str "c4f 4 4 c4fw c4b")
  | 27 => .val (.str "c4b 4 4 c4bw c4f")
  | 28 => .val (.str "c4fw 4 4 c4f c4bw")
  | 29 => .val (.str "c4bw 4 4 c4b c4fw")
  | _ => .no
def KEn (i : Nat) (s : Sl) : DL.Env := [.own (.dic ((tb_KINDS.take i).map fun q => .inr q.1) ((tb_KINDS.take i).map (·.2))), .val KTx, s, sp5 i]
theorem ksplit : dSplit KTx (.str ", ") = some (.lst (rt.map .str)) := by kernel_rfl
theorem kst0 (n : Int) : KK2b (KEn 0 (s2 1)) n = some (.ok (.nx (KEn 1 (s2 1))), n) := by kernel_rfl
theorem kst1 (n : Int) : KK2b (KEn 1 (s2 2)) n = some (.ok (.nx (KEn 2 (s2 2))), n) := by kernel_rfl
theorem kst2 (n : Int) : KK2b (KEn 2 (s2 3)) n = some (.ok (.nx (KEn 3 (s2 3))), n) := by kernel_rfl
theorem kst3 (n : Int) : KK2b (KEn 3 (s2 4)) n = some (.ok (.nx (KEn 4 (s2 4))), n) := by kernel_rfl
theorem kst4 (n : Int) : KK2b (KEn 4 (s2 5)) n = some (.ok (.nx (KEn 5 (s2 5))), n) := by kernel_rfl
theorem kst5 (n : Int) : KK2b (KEn 5 (s2 6)) n = some (.ok (.nx (KEn 6 (s2 6))), n) := by kernel_rfl
theorem kst6 (n : Int) : KK2b (KEn 6 (s2 7)) n = some (.ok (.nx (KEn 7 (s2 7))), n) := by kernel_rfl
theorem kst7 (n : Int) : KK2b (KEn 7 (s2 8)) n = some (.ok (.nx (KEn 8 (s2 8))), n) := by kernel_rfl
theorem kst8 (n : Int) : KK2b (KEn 8 (s2 9)) n = some (.ok (.nx (KEn 9 (s2 9))), n) := by kernel_rfl
theorem kst9 (n : Int) : KK2b (KEn 9 (s2 10)) n = some (.ok (.nx (KEn 10 (s2 10))), n) := by kernel_rfl
theorem kst10 (n : Int) : KK2b (KEn 10 (s2 11)) n = some (.ok (.nx (KEn 11 (s2 11))), n) := by kernel_rfl
theorem kst11 (n : Int) : KK2b (KEn 11 (s2 12)) n = some (.ok (.nx (KEn 12 (s2 12))), n) := by kernel_rfl
theorem kst12 (n : Int) : KK2b (KEn 12 (s2 13)) n = some (.ok (.nx (KEn 13 (s2 13))), n) := by kernel_rfl
theorem kst13 (n : Int) : KK2b (KEn 13 (s2 14)) n = some (.ok (.nx (KEn 14 (s2 14))), n) := by kernel_rfl
theorem kst14 (n : Int) : KK2b (KEn 14 (s2 15)) n = some (.ok (.nx (KEn 15 (s2 15))), n) := by kernel_rfl
theorem kst15 (n : Int) : KK2b (KEn 15 (s2 16)) n = some (.ok (.nx (KEn 16 (s2 16))), n) := by kernel_rfl
theorem kst16 (n : Int) : KK2b (KEn 16 (s2 17)) n = some (.ok (.nx (KEn 17 (s2 17))), n) := by kernel_rfl
theorem kst17 (n : Int) : KK2b (KEn 17 (s2 18)) n = some (.ok (.nx (KEn 18 (s2 18))), n) := by kernel_rfl
theorem kst18 (n : Int) : KK2b (KEn 18 (s2 19)) n = some (.ok (.nx (KEn 19 (s2 19))), n) := by kernel_rfl
theorem kst19 (n : Int) : KK2b (KEn 19 (s2 20)) n = some (.ok (.nx (KEn 20 (s2 20))), n) := by kernel_rfl
theorem kst20 (n : Int) : KK2b (KEn 20 (s2 21)) n = some (.ok (.nx (KEn 21 (s2 21))), n) := by kernel_rfl
theorem kst21 (n : Int) : KK2b (KEn 21 (s2 22)) n = some (.ok (.nx (KEn 22 (s2 22))), n) := by kernel_rfl
theorem kst22 (n : Int) : KK2b (KEn 22 (s2 23)) n = some (.ok (.nx (KEn 23 (s2 23))), n) := by kernel_rfl
theorem kst23 (n : Int) : KK2b (KEn 23 (s2 24)) n = some (.ok (.nx (KEn 24 (s2 24))), n) := by kernel_rfl
theorem kst24 (n : Int) : KK2b (KEn 24 (s2 25)) n = some (.ok (.nx (KEn 25 (s2 25))), n) := by kernel_rfl
theorem kst25 (n : Int) : KK2b (KEn 25 (s2 26)) n = some (.ok (.nx (KEn 26 (s2 26))), n) := by kernel_rfl
theorem kst26 (n : Int) : KK2b (KEn 26 (s2 27)) n = some (.ok (.nx (KEn 27 (s2 27))), n) := by kernel_rfl
theorem kst27 (n : Int) : KK2b (KEn 27 (s2 28)) n = some (.ok (.nx (KEn 28 (s2 28))), n) := by kernel_rfl
theorem kst28 (n : Int) : KK2b (KEn 28 (s2 29)) n = some (.ok (.nx (KEn 29 (s2 29))), n) := by kernel_rfl
theorem forD_step {g : GX} {b : SX} {d : D} {ds : List D} {ρ ρ1 ρ2 : DL.Env} {n : Int} {r : Option (Except Xc Out × Int)} (h1 : g d ρ = some ρ1) (h2 : b ρ1 n = some (.ok (.nx ρ2), n)) (h3 : forD g b ds ρ2 n = r) : forD g b (d :: ds) ρ n = r := by
  rw [forD_cons]; simp [h1, h2, h3]
theorem kloop (n : Int) : forD (gV 2) KK2b (rt.map .str) (KEn 0 .no) n = some (.ok (.nx (KEn 29 (s2 29))), n) :=
  forD_step (ρ1 := KEn 0 (s2 1)) rfl (kst0 n) (forD_step (ρ1 := KEn 1 (s2 2)) rfl (kst1 n) (forD_step (ρ1 := KEn 2 (s2 3)) rfl (kst2 n) (forD_step (ρ1 := KEn 3 (s2 4)) rfl (kst3 n) (forD_step (ρ1 := KEn 4 (s2 5)) rfl (kst4 n) (forD_step (ρ1 := KEn 5 (s2 6)) rfl (kst5 n) (forD_step (ρ1 := KEn 6 (s2 7)) rfl (kst6 n) (forD_step (ρ1 := KEn 7 (s2 8)) rfl (kst7 n) (forD_step (ρ1 := KEn 8 (s2 9)) rfl (kst8 n) (forD_step (ρ1 := KEn 9 (s2 10)) rfl (kst9 n) (forD_step (ρ1 := KEn 10 (s2 11)) rfl (kst10 n) (forD_step (ρ1 := KEn 11 (s2 12)) rfl (kst11 n) (forD_step (ρ1 := KEn 12 (s2 13)) rfl (kst12 n) (forD_step (ρ1 := KEn 13 (s2 14)) rfl (kst13 n) (forD_step (ρ1 := KEn 14 (s2 15)) rfl (kst14 n) (forD_step (ρ1 := KEn 15 (s2 16)) rfl (kst15 n) (forD_step (ρ1 := KEn 16 (s2 17)) rfl (kst16 n) (forD_step (ρ1 := KEn 17 (s2 18)) rfl (kst17 n) (forD_step (ρ1 := KEn 18 (s2 19)) rfl (kst18 n) (forD_step (ρ1 := KEn 19 (s2 20)) rfl (kst19 n) (forD_step (ρ1 := KEn 20 (s2 21)) rfl (kst20 n) (forD_step (ρ1 := KEn 21 (s2 22)) rfl (kst21 n) (forD_step (ρ1 := KEn 22 (s2 23)) rfl (kst22 n) (forD_step (ρ1 := KEn 23 (s2 24)) rfl (kst23 n) (forD_step (ρ1 := KEn 24 (s2 25)) rfl (kst24 n) (forD_step (ρ1 := KEn 25 (s2 26)) rfl (kst25 n) (forD_step (ρ1 := KEn 26 (s2 27)) rfl (kst26 n) (forD_step (ρ1 := KEn 27 (s2 28)) rfl (kst27 n) (forD_step (ρ1 := KEn 28 (s2 29)) rfl (kst28 n) (rfl)))))))))))))))))))))))))))))
theorem kinds_ok (n : Int) : f__law_kinds [] n = some (.ok KT, n) := by
  have h : KK2 (KEn 0 .no) n = some (.ok (.nx (KEn 29 (s2 29))), n) := by
    show sFor (gV 2) (iOf (e2 dSplit (eVar 1) (eC (.str ", ")))) KK2b (KEn 0 .no) n = _
    rw [sFor_ap]
    have e : iOf (e2 dSplit (eVar 1) (eC (.str ", "))) (KEn 0 .no) n = some (.ok (rt.map .str), n) := by
      unfold KEn
      simp [ksplit]
    rw [bind_ap, e]
    exact kloop n
  show M.bind (g__law_kinds _) runK n = _
  rw [KK_eq, bind_ap]
  have h0 : KK [.no, .no, .no, .no] n = some (.ok (.ret KT), n) := by
    show sSeq KK0 (sSeq KK1 (sSeq KK2 _)) _ n = _
    exact seq_go (ρ1 := [.own (.dic [] []), .no, .no, .no]) (n1 := n) rfl (seq_go (ρ1 := KEn 0 .no) (n1 := n) rfl (seq_go h rfl))
  show bindR (KK [.no, .no, .no, .no] n) runK = _
  rw [h0]
  rfl
theorem cell_q : ∀ i : Fin 29, ∀ n : Int, f_is_cell [.tup [.str (nm i), .str "q"]] n = some (.ok (.bl true), n)
  | ⟨0, _⟩ => fun n => by kernel_rfl
  | ⟨1, _⟩ => fun n => by kernel_rfl
  | ⟨2, _⟩ => fun n => by kernel_rfl
  | ⟨3, _⟩ => fun n => by kernel_rfl
  | ⟨4, _⟩ => fun n => by kernel_rfl
  | ⟨5, _⟩ => fun n => by kernel_rfl
  | ⟨6, _⟩ => fun n => by kernel_rfl
  | ⟨7, _⟩ => fun n => by kernel_rfl
  | ⟨8, _⟩ => fun n => by kernel_rfl
  | ⟨9, _⟩ => fun n => by kernel_rfl
  | ⟨10, _⟩ => fun n => by kernel_rfl
  | ⟨11, _⟩ => fun n => by kernel_rfl
  | ⟨12, _⟩ => fun n => by kernel_rfl
  | ⟨13, _⟩ => fun n => by kernel_rfl
  | ⟨14, _⟩ => fun n => by kernel_rfl
  | ⟨15, _⟩ => fun n => by kernel_rfl
  | ⟨16, _⟩ => fun n => by kernel_rfl
  | ⟨17, _⟩ => fun n => by kernel_rfl
  | ⟨18, _⟩ => fun n => by kernel_rfl
  | ⟨19, _⟩ => fun n => by kernel_rfl
  | ⟨20, _⟩ => fun n => by kernel_rfl
  | ⟨21, _⟩ => fun n => by kernel_rfl
  | ⟨22, _⟩ => fun n => by kernel_rfl
  | ⟨23, _⟩ => fun n => by kernel_rfl
  | ⟨24, _⟩ => fun n => by kernel_rfl
  | ⟨25, _⟩ => fun n => by kernel_rfl
  | ⟨26, _⟩ => fun n => by kernel_rfl
  | ⟨27, _⟩ => fun n => by kernel_rfl
  | ⟨28, _⟩ => fun n => by kernel_rfl
  | ⟨k + 29, h⟩ => absurd h (by omega)
end K02
end

section
set_option Elab.async false
set_option linter.all false
set_option autoImplicit false
set_option maxRecDepth 100000
namespace K02
open DL PySem L2 P_k02_whole_kinds PyProof.Rows
def ck : D := .tup [.str "k", .str "a"]
def cy : D := .tup [.str "yo", .str "a"]
def rp (d : D) (m : Nat) : D := .tup (List.replicate m d)
def e0 : D := .tup []
def rowsL (m : Nat) : List (D × Bool) := [(.tup [e0, e0, e0], true), (.tup [rp ck 60, rp ck 30, rp ck 60], true), (.tup [rp ck 61, e0, e0], false), (.tup [e0, rp ck 31, e0], false), (.tup [e0, rp ck 1, rp ck 61], false), (.tup [rp ck 1, e0, rp ck 1], false), (.tup [e0, rp cy 1, e0], false), (.tup [e0, rp cy m, rp ck 1], false), (.tup [e0, .tup [cy, ck], e0], true), (.tup [rp ck 1, rp ck 1], false), (.tup [rp ck 1, rp ck 1, e0, e0], false), (.lst [rp ck 1, rp ck 1, e0], false), (.tup [.lst [ck], rp ck 1, e0], false), (.tup [rp ck 1, .lst [ck], e0], false), (.tup [ck, rp ck 1, e0], false), (.tup [.tup [.tup [.str "k", .str "a", .str "b"]], e0, e0], false), (.non, false), (.str "row", false), (e0, false)]
theorem rows_1 : ∀ i : Fin 19, ∀ n : Int, f_is_row [((rowsL 1)[i.1]'i.2).1] n = some (.ok (.bl ((rowsL 1)[i.1]'i.2).2), n)
  | ⟨0, _⟩ => fun n => by kernel_rfl
  | ⟨1, _⟩ => fun n => by kernel_rfl
  | ⟨2, _⟩ => fun n => by kernel_rfl
  | ⟨3, _⟩ => fun n => by kernel_rfl
  | ⟨4, _⟩ => fun n => by kernel_rfl
  | ⟨5, _⟩ => fun n => by kernel_rfl
  | ⟨6, _⟩ => fun n => by kernel_rfl
  | ⟨7, _⟩ => fun n => by kernel_rfl
  | ⟨8, _⟩ => fun n => by kernel_rfl
  | ⟨9, _⟩ => fun n => by kernel_rfl
  | ⟨10, _⟩ => fun n => by kernel_rfl
  | ⟨11, _⟩ => fun n => by kernel_rfl
  | ⟨12, _⟩ => fun n => by kernel_rfl
  | ⟨13, _⟩ => fun n => by kernel_rfl
  | ⟨14, _⟩ => fun n => by kernel_rfl
  | ⟨15, _⟩ => fun n => by kernel_rfl
  | ⟨16, _⟩ => fun n => by kernel_rfl
  | ⟨17, _⟩ => fun n => by kernel_rfl
  | ⟨18, _⟩ => fun n => by kernel_rfl
  | ⟨k + 19, h⟩ => absurd h (by omega)
theorem rows_2 : ∀ i : Fin 19, ∀ n : Int, f_is_row [((rowsL 2)[i.1]'i.2).1] n = some (.ok (.bl ((rowsL 2)[i.1]'i.2).2), n)
  | ⟨0, _⟩ => fun n => by kernel_rfl
  | ⟨1, _⟩ => fun n => by kernel_rfl
  | ⟨2, _⟩ => fun n => by kernel_rfl
  | ⟨3, _⟩ => fun n => by kernel_rfl
  | ⟨4, _⟩ => fun n => by kernel_rfl
  | ⟨5, _⟩ => fun n => by kernel_rfl
  | ⟨6, _⟩ => fun n => by kernel_rfl
  | ⟨7, _⟩ => fun n => by kernel_rfl
  | ⟨8, _⟩ => fun n => by kernel_rfl
  | ⟨9, _⟩ => fun n => by kernel_rfl
  | ⟨10, _⟩ => fun n => by kernel_rfl
  | ⟨11, _⟩ => fun n => by kernel_rfl
  | ⟨12, _⟩ => fun n => by kernel_rfl
  | ⟨13, _⟩ => fun n => by kernel_rfl
  | ⟨14, _⟩ => fun n => by kernel_rfl
  | ⟨15, _⟩ => fun n => by kernel_rfl
  | ⟨16, _⟩ => fun n => by kernel_rfl
  | ⟨17, _⟩ => fun n => by kernel_rfl
  | ⟨18, _⟩ => fun n => by kernel_rfl
  | ⟨k + 19, h⟩ => absurd h (by omega)
theorem rows_3 : ∀ i : Fin 19, ∀ n : Int, f_is_row [((rowsL 3)[i.1]'i.2).1] n = some (.ok (.bl ((rowsL 3)[i.1]'i.2).2), n)
  | ⟨0, _⟩ => fun n => by kernel_rfl
  | ⟨1, _⟩ => fun n => by kernel_rfl
  | ⟨2, _⟩ => fun n => by kernel_rfl
  | ⟨3, _⟩ => fun n => by kernel_rfl
  | ⟨4, _⟩ => fun n => by kernel_rfl
  | ⟨5, _⟩ => fun n => by kernel_rfl
  | ⟨6, _⟩ => fun n => by kernel_rfl
  | ⟨7, _⟩ => fun n => by kernel_rfl
  | ⟨8, _⟩ => fun n => by kernel_rfl
  | ⟨9, _⟩ => fun n => by kernel_rfl
  | ⟨10, _⟩ => fun n => by kernel_rfl
  | ⟨11, _⟩ => fun n => by kernel_rfl
  | ⟨12, _⟩ => fun n => by kernel_rfl
  | ⟨13, _⟩ => fun n => by kernel_rfl
  | ⟨14, _⟩ => fun n => by kernel_rfl
  | ⟨15, _⟩ => fun n => by kernel_rfl
  | ⟨16, _⟩ => fun n => by kernel_rfl
  | ⟨17, _⟩ => fun n => by kernel_rfl
  | ⟨18, _⟩ => fun n => by kernel_rfl
  | ⟨k + 19, h⟩ => absurd h (by omega)
def strL : List D := [.tup [.str "k"], .tup [.str "k", .str "a", .str "a"], .lst [.str "k", .str "a"], .tup [.str "K", .str "a"], .tup [.str "k", .str "A"], .tup [.str "k", .str ""], .tup [.str "k", .str "ab"], .tup [.str "k", .int 1], .tup [.int 1, .str "a"], .tup [.str "", .str "a"], .non, .str "k", .tup [.str "k", .non], .tup [.str "k2", .str "a"], .tup [.str "k", .str "-"]]
theorem str_ok (n : Int) : f__law_strange [] n = some (.ok (.lst strL), n) := by kernel_rfl
theorem str_no : ∀ i : Fin 15, ∀ n : Int, f_is_cell [strL[i.1]'i.2] n = some (.ok (.bl false), n)
  | ⟨0, _⟩ => fun n => by kernel_rfl
  | ⟨1, _⟩ => fun n => by kernel_rfl
  | ⟨2, _⟩ => fun n => by kernel_rfl
  | ⟨3, _⟩ => fun n => by kernel_rfl
  | ⟨4, _⟩ => fun n => by kernel_rfl
  | ⟨5, _⟩ => fun n => by kernel_rfl
  | ⟨6, _⟩ => fun n => by kernel_rfl
  | ⟨7, _⟩ => fun n => by kernel_rfl
  | ⟨8, _⟩ => fun n => by kernel_rfl
  | ⟨9, _⟩ => fun n => by kernel_rfl
  | ⟨10, _⟩ => fun n => by kernel_rfl
  | ⟨11, _⟩ => fun n => by kernel_rfl
  | ⟨12, _⟩ => fun n => by kernel_rfl
  | ⟨13, _⟩ => fun n => by kernel_rfl
  | ⟨14, _⟩ => fun n => by kernel_rfl
  | ⟨k + 15, h⟩ => absurd h (by omega)
end K02
end

section
set_option Elab.async false
set_option linter.all false
set_option autoImplicit false
set_option maxRecDepth 100000
namespace K02
open DL PySem L2 P_k02_whole_kinds PyProof.Rows
def parR (W : Wd) : SX := (sPar [1, 2, 3] (eCons (eTup (eCons (eC (.str "k")) (eCons (eC (.str "a")) eNil))) (eCons (eTup (eCons (eC (.str "yo")) (eCons (eC (.str "a")) eNil))) (eCons (e2 dAdd (eC (.int 1)) (eCall (f__law_take W) (eCons (eVar 0) (eCons (eC (.int 3)) eNil)))) eNil))))
def retR : SX := (sRet (eLst (eCons (eTup (eCons (eTup (eCons (eTup eNil) (eCons (eTup eNil) (eCons (eTup eNil) eNil)))) (eCons (eC (.bl true)) eNil))) (eCons (eTup (eCons (eTup (eCons (e2 dMul (eTup (eCons (eVar 1) eNil)) (eC (.int 60))) (eCons (e2 dMul (eTup (eCons (eVar 1) eNil)) (eC (.int 30))) (eCons (e2 dMul (eTup (eCons (eVar 1) eNil)) (eC (.int 60))) eNil)))) (eCons (eC (.bl true)) eNil))) (eCons (eTup (eCons (eTup (eCons (e2 dMul (eTup (eCons (eVar 1) eNil)) (eC (.int 61))) (eCons (eTup eNil) (eCons (eTup eNil) eNil)))) (eCons (eC (.bl false)) eNil))) (eCons (eTup (eCons (eTup (eCons (eTup eNil) (eCons (e2 dMul (eTup (eCons (eVar 1) eNil)) (eC (.int 31))) (eCons (eTup eNil) eNil)))) (eCons (eC (.bl false)) eNil))) (eCons (eTup (eCons (eTup (eCons (eTup eNil) (eCons (eTup (eCons (eVar 1) eNil)) (eCons (e2 dMul (eTup (eCons (eVar 1) eNil)) (eC (.int 61))) eNil)))) (eCons (eC (.bl false)) eNil))) (eCons (eTup (eCons (eTup (eCons (eTup (eCons (eVar 1) eNil)) (eCons (eTup eNil) (eCons (eTup (eCons (eVar 1) eNil)) eNil)))) (eCons (eC (.bl false)) eNil))) (eCons (eTup (eCons (eTup (eCons (eTup eNil) (eCons (eTup (eCons (eVar 2) eNil)) (eCons (eTup eNil) eNil)))) (eCons (eC (.bl false)) eNil))) (eCons (eTup (eCons (eTup (eCons (eTup eNil) (eCons (e2 dMul (eTup (eCons (eVar 2) eNil)) (eVar 3)) (eCons (eTup (eCons (eVar 1) eNil)) eNil)))) (eCons (eC (.bl false)) eNil))) (eCons (eTup (eCons (eTup (eCons (eTup eNil) (eCons (eTup (eCons (eVar 2) (eCons (eVar 1) eNil))) (eCons (eTup eNil) eNil)))) (eCons (eC (.bl true)) eNil))) (eCons (eTup (eCons (eTup (eCons (eTup (eCons (eVar 1) eNil)) (eCons (eTup (eCons (eVar 1) eNil)) eNil))) (eCons (eC (.bl false)) eNil))) (eCons (eTup (eCons (eTup (eCons (eTup (eCons (eVar 1) eNil)) (eCons (eTup (eCons (eVar 1) eNil)) (eCons (eTup eNil) (eCons (eTup eNil) eNil))))) (eCons (eC (.bl false)) eNil))) (eCons (eTup (eCons (eLst (eCons (eTup (eCons (eVar 1) eNil)) (eCons (eTup (eCons (eVar 1) eNil)) (eCons (eTup eNil) eNil)))) (eCons (eC (.bl false)) eNil))) (eCons (eTup (eCons (eTup (eCons (eLst (eCons (eVar 1) eNil)) (eCons (eTup (eCons (eVar 1) eNil)) (eCons (eTup eNil) eNil)))) (eCons (eC (.bl false)) eNil))) (eCons (eTup (eCons (eTup (eCons (eTup (eCons (eVar 1) eNil)) (eCons (eLst (eCons (eVar 1) eNil)) (eCons (eTup eNil) eNil)))) (eCons (eC (.bl false)) eNil))) (eCons (eTup (eCons (eTup (eCons (eVar 1) (eCons (eTup (eCons (eVar 1) eNil)) (eCons (eTup eNil) eNil)))) (eCons (eC (.bl false)) eNil))) (eCons (eTup (eCons (eTup (eCons (eTup (eCons (eTup (eCons (eC (.str "k")) (eCons (eC (.str "a")) (eCons (eC (.str "b")) eNil)))) eNil)) (eCons (eTup eNil) (eCons (eTup eNil) eNil)))) (eCons (eC (.bl false)) eNil))) (eCons (eTup (eCons (eC .non) (eCons (eC (.bl false)) eNil))) (eCons (eTup (eCons (eC (.str "row")) (eCons (eC (.bl false)) eNil))) (eCons (eTup (eCons (eTup eNil) (eCons (eC (.bl false)) eNil))) eNil)))))))))))))))))))))
theorem rows_eq (W : Wd) : g__law_rows W = sSeq (parR W) retR := rfl
def rowsD (m : Nat) : D := .lst ((rowsL m).map fun q => .tup [q.1, .bl q.2])
theorem ret1 (n : Int) : retR [.val .drw, .val ck, .val cy, .val (.int 1)] n = some (.ok (.ret (rowsD 1)), n) := by kernel_rfl
theorem ret2 (n : Int) : retR [.val .drw, .val ck, .val cy, .val (.int 2)] n = some (.ok (.ret (rowsD 2)), n) := by kernel_rfl
theorem ret3 (n : Int) : retR [.val .drw, .val ck, .val cy, .val (.int 3)] n = some (.ok (.ret (rowsD 3)), n) := by kernel_rfl
theorem law_rows (W : Wd) (n : Int) : ∃ m : Nat, (m = 1 ∨ m = 2 ∨ m = 3) ∧ f__law_rows W [.drw] n = some (.ok (rowsD m), n + 1) := by
  obtain ⟨v, h0, h1, hv⟩ := take_ok W 3 n (by omega)
  have st : parR W [.val .drw, .no, .no, .no] n = some (.ok (.nx [.val .drw, .val ck, .val cy, .val (.int (1 + v))]), n + 1) := by
    unfold parR
    simp [hv, ck, cy]
  have h : v = 0 ∨ v = 1 ∨ v = 2 := by omega
  have run : ∀ m, retR [.val .drw, .val ck, .val cy, .val (.int (1 + v))] (n + 1) = some (.ok (.ret (rowsD m)), n + 1) → f__law_rows W [.drw] n = some (.ok (rowsD m), n + 1) := fun m e => by
    unfold f__law_rows
    rw [runD_ap, bind_ap, rows_eq]
    show bindR (sSeq (parR W) retR [.val .drw, .no, .no, .no] n) runK = _
    rw [seq_go st e]
    rfl
  rcases h with rfl | rfl | rfl
  · exact ⟨1, .inl rfl, run 1 (ret1 _)⟩
  · exact ⟨2, .inr (.inl rfl), run 2 (ret2 _)⟩
  · exact ⟨3, .inr (.inr rfl), run 3 (ret3 _)⟩
end K02
end

section
set_option Elab.async false
set_option linter.all false
set_option autoImplicit false
set_option maxRecDepth 100000
namespace K02
open DL PySem L2 P_k02_whole_kinds PyProof.Rows
def yn : Fin 3 → Str := fun i => (["a", "b", "z"] : List Str)[i]
def ry (z : Str) : Nat := if z == "a" then 0 else if z == "b" then 1 else 2
theorem ry_yn : ∀ i : Fin 3, ry (yn i) = i.1
  | ⟨0, _⟩ => by kernel_rfl
  | ⟨1, _⟩ => by kernel_rfl
  | ⟨2, _⟩ => by kernel_rfl
  | ⟨k + 3, h⟩ => absurd h (by omega)
theorem yn_inj {i j : Fin 3} (h : yn i = yn j) : i = j := Fin.ext (by rw [← ry_yn i, ← ry_yn j, h])
theorem nm_ok : ∀ i : Fin 29, PyData.strOk (nm i) = true
  | ⟨0, _⟩ => by kernel_rfl
  | ⟨1, _⟩ => by kernel_rfl
  | ⟨2, _⟩ => by kernel_rfl
  | ⟨3, _⟩ => by kernel_rfl
  | ⟨4, _⟩ => by kernel_rfl
  | ⟨5, _⟩ => by kernel_rfl
  | ⟨6, _⟩ => by kernel_rfl
  | ⟨7, _⟩ => by kernel_rfl
  | ⟨8, _⟩ => by kernel_rfl
  | ⟨9, _⟩ => by kernel_rfl
  | ⟨10, _⟩ => by kernel_rfl
  | ⟨11, _⟩ => by kernel_rfl
  | ⟨12, _⟩ => by kernel_rfl
  | ⟨13, _⟩ => by kernel_rfl
  | ⟨14, _⟩ => by kernel_rfl
  | ⟨15, _⟩ => by kernel_rfl
  | ⟨16, _⟩ => by kernel_rfl
  | ⟨17, _⟩ => by kernel_rfl
  | ⟨18, _⟩ => by kernel_rfl
  | ⟨19, _⟩ => by kernel_rfl
  | ⟨20, _⟩ => by kernel_rfl
  | ⟨21, _⟩ => by kernel_rfl
  | ⟨22, _⟩ => by kernel_rfl
  | ⟨23, _⟩ => by kernel_rfl
  | ⟨24, _⟩ => by kernel_rfl
  | ⟨25, _⟩ => by kernel_rfl
  | ⟨26, _⟩ => by kernel_rfl
  | ⟨27, _⟩ => by kernel_rfl
  | ⟨28, _⟩ => by kernel_rfl
  | ⟨k + 29, h⟩ => absurd h (by omega)
theorem yn_ok : ∀ i : Fin 3, PyData.strOk (yn i) = true
  | ⟨0, _⟩ => by kernel_rfl
  | ⟨1, _⟩ => by kernel_rfl
  | ⟨2, _⟩ => by kernel_rfl
  | ⟨k + 3, h⟩ => absurd h (by omega)
structure C where
  k : Fin 29
  y : Fin 3
  deriving DecidableEq
instance : PyE C where
  enc := fun c => .tup [.str (nm c.k), .str (yn c.y)]
  py := fun c => .tuple [.str (nm c.k), .str (yn c.y)]
  to := fun c => by simp [toPy, toPys]
  lay := fun c => by simp [PyData.canLay0, PyData.canLayAll0, nm_ok, yn_ok]
  dep := fun c => by simp [PyData.depth, PyData.depthAll]
  eqv := fun x y => by
    obtain ⟨i, a⟩ := x
    obtain ⟨j, b⟩ := y
    simp only [PyData.eqv, PyData.eqvAll, Bool.and_eq_true, beq_iff_eq, C.mk.injEq, Bool.true_and, and_true]
    exact ⟨fun ⟨h1, h2⟩ => ⟨nm_inj h1, yn_inj h2⟩, fun ⟨h1, h2⟩ => by rw [h1, h2]; exact ⟨rfl, rfl⟩⟩
end K02
end

section
set_option Elab.async false
set_option linter.all false
set_option autoImplicit false
set_option maxRecDepth 100000
namespace K02
open DL PySem L2 P_k02_whole_kinds PyProof.Rows
def ord : List (Fin 29) := [8, 22, 24, 21, 23, 26, 28, 25, 27, 19, 20, 7, 0, 15, 9, 2, 11, 13, 12, 14, 1, 17, 10, 3, 4, 5, 16, 18, 6]
def NL : List D := ord.map fun i => .str (nm i)
theorem names_ok (n : Int) : eB dSorted (eCons (eB dLstA (eCons (eC KT) eNil)) eNil) [] n = some (.ok (.lst NL), n) := by kernel_rfl
theorem pick_name (W : Wd) (n : Int) : ∃ i, f__law_pick W [.drw, .lst NL] n = some (.ok (.str (nm i)), n + 1) := by
  obtain ⟨d, h, e⟩ := pick_ok W NL (by unfold NL ord; simp) n
  unfold NL at h
  obtain ⟨i, _, rfl⟩ := List.mem_map.mp h
  exact ⟨i, e⟩
theorem pick_yarn (W : Wd) (n : Int) : ∃ i, f__law_pick W [.drw, .lst [.str "a", .str "b", .str "z"]] n = some (.ok (.str (yn i)), n + 1) := by
  obtain ⟨d, h, e⟩ := pick_ok W [.str "a", .str "b", .str "z"] (by simp) n
  simp only [List.mem_cons, List.not_mem_nil, or_false] at h
  rcases h with rfl | rfl | rfl
  · exact ⟨0, e⟩
  · exact ⟨1, e⟩
  · exact ⟨2, e⟩
theorem word_draw (W : Wd) (n : Int) : ∃ w : List C, ∃ n', w.length ≤ 6 ∧ f__law_any_word W [.drw, .lst NL] n = some (.ok (encT w), n') := by
  obtain ⟨v, h0, h1, hv⟩ := take_ok W 7 n (by omega)
  have r := dRng1_ok (j := v) (by omega) (by omega)
  have tu : ∀ ds, dTupOf [.lst ds] = some (.tup ds) := fun _ => rfl
  obtain ⟨w, n', h2, h3⟩ := compD_ex (α := C) (compB [2] (gV 2) tYesD (eTup (eCons (eCall (f__law_pick W) (eCons (eVar 0) (eCons (eVar 1) eNil))) (eCons (eCall (f__law_pick W) (eCons (eVar 0) (eCons (eLst (eCons (eC (.str "a")) (eCons (eC (.str "b")) (eCons (eC (.str "z")) eNil)))) eNil))) eNil))) [.val .drw, .val (.lst NL), .no]) (rngD 0 v) (n + 1) fun d hd n => by
    obtain ⟨i, hi⟩ := pick_name W n
    obtain ⟨j, hj⟩ := pick_yarn W (n + 1)
    refine ⟨⟨i, j⟩, n + 1 + 1, ?_⟩
    simp [hi, hj]
    rfl
  have hl : w.length ≤ 6 := by rw [h3, rngD_length]; omega
  refine ⟨w, n', hl, ?_⟩
  simp only [f__law_any_word, g__law_any_word]
  have hw : (w.map PyE.enc).length ≤ 16777216 := by simp; omega
  simp [hv, r, h2, tu, mkLst_of hw, encT]
/-- a comprehension over cells -/
theorem comp_enc {α : Type} [PyE α] (b : D → M (Option D)) (g : α → D) (n : Int) : ∀ w : List α, (∀ x ∈ w, b (PyE.enc x) n = some (.ok (some (g x)), n)) → compD b (w.map PyE.enc) n = some (.ok (w.map g), n)
  | [], _ => rfl
  | x :: w, h => by
    have h1 := h x List.mem_cons_self
    have h2 := comp_enc b g n w fun y hy => h y (List.mem_cons_of_mem _ hy)
    rw [List.map_cons, compD_cons]
    simp [h1, h2]
theorem ints_map {α : Type} (g : α → Int) : ∀ w : List α, dInts (w.map fun x => .int (g x)) = some (w.map g)
  | [] => rfl
  | x :: w => by rw [List.map_cons]; unfold dInts; rw [ints_map g w]; rfl
theorem sum_map {α : Type} (g : α → Int) (w : List α) : dSum [.lst (w.map fun x => .int (g x))] = some (.int (w.map g).sum) := by
  have h := ints_map g w
  unfold dSum
  simp [h]
theorem row0 (i : Fin 29) : dIx (row i) (.int 0) = some (.int (tk i)) := rfl
theorem row1 (i : Fin 29) : dIx (row i) (.int 1) = some (.int (mk i)) := rfl
theorem row2 (i : Fin 29) : dIx (row i) (.int 2) = some (.str (nm (bk i))) := rfl
theorem row3 (i : Fin 29) : dIx (row i) (.int 3) = some (.str (nm (mr i))) := rfl
theorem encC (c : C) : (PyE.enc c : D) = .tup [.str (nm c.k), .str (yn c.y)] := rfl
theorem rev_T (w : List C) : dRev (encT w) = some (.tup (w.reverse.map PyE.enc)) := by unfold encT dRev; simp
theorem tupOf (ds : List D) : dTupOf [.lst ds] = some (.tup ds) := rfl
def bc (c : C) : C := ⟨bk c.k, c.y⟩
def mc (c : C) : C := ⟨mr c.k, c.y⟩
theorem takes_ok (w : List C) (h : w.length ≤ 6) (n : Int) : f_takes [encT w] n = some (.ok (.int (w.map fun c => tk c.k).sum), n) := by
  have e := comp_enc (compB [1, 2] (gT (gsC (gV 1) (gsC (gV 2) gsN))) tYesD (e2 dIx (e1 (dIxK tb_KINDS) (eVar 1)) (eC (.int 0))) [.val (encT w), .no, .no]) (fun c : C => .int (tk c.k)) n w fun c _ => by
    simp [encC, ixK, row0]
  have hw : (w.map fun c : C => D.int (tk c.k)).length ≤ 16777216 := by simp; omega
  have s := sum_map (fun c : C => tk c.k) w
  simp only [f_takes, g_takes]
  simp only [runD_ap, bind_ap, sRet_ap, eB_ap, eCons_ap, eNil_ap, eComp_ap, iOf_ap, eVar_0, List.map_cons, List.map_nil, List.cons_append, List.nil_append, List.replicate, bindR_ok, encT, dItems_tup, opt_some]
  simp only [encT] at e
  rw [e]
  simp [mkLst_of hw, s]
theorem takes2_ok (w : List C) (h : w.length ≤ 6) (n : Int) : f__law_takes [encT w, KT] n = some (.ok (.int (w.map fun c => tk c.k).sum), n) := by
  have e := comp_enc (compB [2, 3] (gT (gsC (gV 2) (gsC (gV 3) gsN))) tYesD (e2 dIx (e2 dIxA (eVar 1) (eVar 2)) (eC (.int 0))) [.val (encT w), .val KT, .no, .no]) (fun c : C => .int (tk c.k)) n w fun c _ => by
    simp [encC, ixT, row0]
  have hw : (w.map fun c : C => D.int (tk c.k)).length ≤ 16777216 := by simp; omega
  have s := sum_map (fun c : C => tk c.k) w
  simp only [f__law_takes, g__law_takes]
  simp only [runD_ap, bind_ap, sRet_ap, eB_ap, eCons_ap, eNil_ap, eComp_ap, iOf_ap, eVar_0, List.map_cons, List.map_nil, List.cons_append, List.nil_append, List.replicate, bindR_ok, encT, dItems_tup, opt_some]
  simp only [encT] at e
  rw [e]
  simp [mkLst_of hw, s]
theorem makes_ok (w : List C) (h : w.length ≤ 6) (n : Int) : f_makes [encT w] n = some (.ok (.int (w.map fun c => mk c.k).sum), n) := by
  have e := comp_enc (compB [1, 2] (gT (gsC (gV 1) (gsC (gV 2) gsN))) tYesD (e2 dIx (e1 (dIxK tb_KINDS) (eVar 1)) (eC (.int 1))) [.val (encT w), .no, .no]) (fun c : C => .int (mk c.k)) n w fun c _ => by
    simp [encC, ixK, row1]
  have hw : (w.map fun c : C => D.int (mk c.k)).length ≤ 16777216 := by simp; omega
  have s := sum_map (fun c : C => mk c.k) w
  simp only [f_makes, g_makes]
  simp only [runD_ap, bind_ap, sRet_ap, eB_ap, eCons_ap, eNil_ap, eComp_ap, iOf_ap, eVar_0, List.map_cons, List.map_nil, List.cons_append, List.nil_append, List.replicate, bindR_ok, encT, dItems_tup, opt_some]
  simp only [encT] at e
  rw [e]
  simp [mkLst_of hw, s]
theorem makes2_ok (w : List C) (h : w.length ≤ 6) (n : Int) : f__law_makes [encT w, KT] n = some (.ok (.int (w.map fun c => mk c.k).sum), n) := by
  have e := comp_enc (compB [2, 3] (gT (gsC (gV 2) (gsC (gV 3) gsN))) tYesD (e2 dIx (e2 dIxA (eVar 1) (eVar 2)) (eC (.int 1))) [.val (encT w), .val KT, .no, .no]) (fun c : C => .int (mk c.k)) n w fun c _ => by
    simp [encC, ixT, row1]
  have hw : (w.map fun c : C => D.int (mk c.k)).length ≤ 16777216 := by simp; omega
  have s := sum_map (fun c : C => mk c.k) w
  simp only [f__law_makes, g__law_makes]
  simp only [runD_ap, bind_ap, sRet_ap, eB_ap, eCons_ap, eNil_ap, eComp_ap, iOf_ap, eVar_0, List.map_cons, List.map_nil, List.cons_append, List.nil_append, List.replicate, bindR_ok, encT, dItems_tup, opt_some]
  simp only [encT] at e
  rw [e]
  simp [mkLst_of hw, s]
theorem behind_ok (w : List C) (h : w.length ≤ 6) (n : Int) : f_behind [encT w] n = some (.ok (encT (w.reverse.map bc)), n) := by
  have e := comp_enc (compB [1, 2] (gT (gsC (gV 1) (gsC (gV 2) gsN))) tYesD (eTup (eCons (e2 dIx (e1 (dIxK tb_KINDS) (eVar 1)) (eC (.int 2))) (eCons (eVar 2) eNil))) [.val (encT w), .no, .no]) (fun c : C => PyE.enc (bc c)) n w.reverse fun c _ => by
    simp [encC, ixK, row2, bc]
  have hw : (w.reverse.map fun c : C => (PyE.enc (bc c) : D)).length ≤ 16777216 := by simp; omega
  have rv := rev_T w
  simp only [f_behind, g_behind]
  simp only [runD_ap, bind_ap, sRet_ap, eB_ap, eCons_ap, eNil_ap, eComp_ap, iOf_ap, e1_ap, eVar_0, List.map_cons, List.map_nil, List.cons_append, List.nil_append, List.replicate, bindR_ok, rv, dItems_tup, opt_some]
  rw [e]
  simp only [bindR_ok, mkLst_of hw, opt_some, tupOf, pure_ap, runK_ret, bind_ap]
  unfold encT
  rw [List.map_map]
  rfl
theorem back_ok (w : List C) (h : w.length ≤ 6) (n : Int) : f__law_back [encT w, KT] n = some (.ok (encT (w.reverse.map bc)), n) := by
  have e := comp_enc (compB [2, 3] (gT (gsC (gV 2) (gsC (gV 3) gsN))) tYesD (eTup (eCons (e2 dIx (e2 dIxA (eVar 1) (eVar 2)) (eC (.int 2))) (eCons (eVar 3) eNil))) [.val (encT w), .val KT, .no, .no]) (fun c : C => PyE.enc (bc c)) n w.reverse fun c _ => by
    simp [encC, ixT, row2, bc]
  have hw : (w.reverse.map fun c : C => (PyE.enc (bc c) : D)).length ≤ 16777216 := by simp; omega
  have rv := rev_T w
  simp only [f__law_back, g__law_back]
  simp only [runD_ap, bind_ap, sRet_ap, eB_ap, eCons_ap, eNil_ap, eComp_ap, iOf_ap, e1_ap, eVar_0, List.map_cons, List.map_nil, List.cons_append, List.nil_append, List.replicate, bindR_ok, rv, dItems_tup, opt_some]
  rw [e]
  simp only [bindR_ok, mkLst_of hw, opt_some, tupOf, pure_ap, runK_ret, bind_ap]
  unfold encT
  rw [List.map_map]
  rfl
theorem mirrored_ok (w : List C) (h : w.length ≤ 6) (n : Int) : f_mirrored_word [encT w] n = some (.ok (encT (w.reverse.map mc)), n) := by
  have e := comp_enc (compB [1, 2] (gT (gsC (gV 1) (gsC (gV 2) gsN))) tYesD (eTup (eCons (e2 dIx (e1 (dIxK tb_KINDS) (eVar 1)) (eC (.int 3))) (eCons (eVar 2) eNil))) [.val (encT w), .no, .no]) (fun c : C => PyE.enc (mc c)) n w.reverse fun c _ => by
    simp [encC, ixK, row3, mc]
  have hw : (w.reverse.map fun c : C => (PyE.enc (mc c) : D)).length ≤ 16777216 := by simp; omega
  have rv := rev_T w
  simp only [f_mirrored_word, g_mirrored_word]
  simp only [runD_ap, bind_ap, sRet_ap, eB_ap, eCons_ap, eNil_ap, eComp_ap, iOf_ap, e1_ap, eVar_0, List.map_cons, List.map_nil, List.cons_append, List.nil_append, List.replicate, bindR_ok, rv, dItems_tup, opt_some]
  rw [e]
  simp only [bindR_ok, mkLst_of hw, opt_some, tupOf, pure_ap, runK_ret, bind_ap]
  unfold encT
  rw [List.map_map]
  rfl
theorem mirror_ok (w : List C) (h : w.length ≤ 6) (n : Int) : f__law_mirror [encT w, KT] n = some (.ok (encT (w.reverse.map mc)), n) := by
  have e := comp_enc (compB [2, 3] (gT (gsC (gV 2) (gsC (gV 3) gsN))) tYesD (eTup (eCons (e2 dIx (e2 dIxA (eVar 1) (eVar 2)) (eC (.int 3))) (eCons (eVar 3) eNil))) [.val (encT w), .val KT, .no, .no]) (fun c : C => PyE.enc (mc c)) n w.reverse fun c _ => by
    simp [encC, ixT, row3, mc]
  have hw : (w.reverse.map fun c : C => (PyE.enc (mc c) : D)).length ≤ 16777216 := by simp; omega
  have rv := rev_T w
  simp only [f__law_mirror, g__law_mirror]
  simp only [runD_ap, bind_ap, sRet_ap, eB_ap, eCons_ap, eNil_ap, eComp_ap, iOf_ap, e1_ap, eVar_0, List.map_cons, List.map_nil, List.cons_append, List.nil_append, List.replicate, bindR_ok, rv, dItems_tup, opt_some]
  rw [e]
  simp only [bindR_ok, mkLst_of hw, opt_some, tupOf, pure_ap, runK_ret, bind_ap]
  unfold encT
  rw [List.map_map]
  rfl
theorem rev2 (f : C → C) (hf : ∀ c, f (f c) = c) (w : List C) : ((w.reverse.map f).reverse.map f) = w := by
  rw [← List.map_reverse, List.reverse_reverse, List.map_map]
  exact (List.map_congr_left fun c _ => hf c).trans (List.map_id w)
theorem bc_bc (c : C) : bc (bc c) = c := by cases c; unfold bc; simp [bk_bk]
theorem mc_mc (c : C) : mc (mc c) = c := by cases c; unfold mc; simp [mr_mr]
theorem rev_mb (w : List C) : ((w.reverse.map mc).reverse.map bc) = ((w.reverse.map bc).reverse.map mc) := by
  rw [← List.map_reverse, ← List.map_reverse, List.reverse_reverse, List.map_map, List.map_map]
  exact List.map_congr_left fun c _ => by cases c; unfold bc mc; simp [bk_mr]
end K02
end

section
set_option Elab.async false
set_option linter.all false
set_option autoImplicit false
set_option maxRecDepth 100000
namespace K02
open DL PySem L2 P_k02_whole_kinds PyProof.Rows
def T0 (W : Wd) : SX := (sAsg (gV 2) (eCall (f__law_kinds) eNil))
def T1 (W : Wd) : SX := (sAsg (gV 3) (eB dSorted (eCons (eB dLstA (eCons (eVar 2) eNil)) eNil)))
def T2 (W : Wd) : SX := (sIf (tOrD (tB (e2 dNe (eB dSorted (eCons (eC (.lst (tb_KINDS.map fun q => .str q.1))) eNil)) (eVar 3))) (tTru (eB dAny (eCons (eComp [9] (gV 9) (iOf (eVar 3)) tYesD (e2 dNe (e1 (dIxK tb_KINDS) (eVar 9)) (e2 dIxA (eVar 2) (eVar 9)))) eNil)))) (sRet (eC (.bl false))) sNx)
def T3b0 (W : Wd) : SX := (sAsg (gV 5) (eCall (f__law_any_word W) (eCons (eVar 1) (eCons (eVar 3) eNil))))
def T3b1 (W : Wd) : SX := (sIf (tOrD (tB (e2 dNe (eCall (f_takes) (eCons (eVar 5) eNil)) (eCall (f__law_takes) (eCons (eVar 5) (eCons (eVar 2) eNil))))) (tB (e2 dNe (eCall (f_makes) (eCons (eVar 5) eNil)) (eCall (f__law_makes) (eCons (eVar 5) (eCons (eVar 2) eNil)))))) (sRet (eC (.bl false))) sNx)
def T3b2 (W : Wd) : SX := (sIf (tOrD (tB (e2 dNe (eCall (f_behind) (eCons (eVar 5) eNil)) (eCall (f__law_back) (eCons (eVar 5) (eCons (eVar 2) eNil))))) (tB (e2 dNe (eCall (f_mirrored_word) (eCons (eVar 5) eNil)) (eCall (f__law_mirror) (eCons (eVar 5) (eCons (eVar 2) eNil)))))) (sRet (eC (.bl false))) sNx)
def T3b3 (W : Wd) : SX := (sIf (tOrD (tB (e2 dNe (eCall (f_behind) (eCons (eCall (f_behind) (eCons (eVar 5) eNil)) eNil)) (eVar 5))) (tOrD (tB (e2 dNe (eCall (f_mirrored_word) (eCons (eCall (f_mirrored_word) (eCons (eVar 5) eNil)) eNil)) (eVar 5))) (tB (e2 dNe (eCall (f_behind) (eCons (eCall (f_mirrored_word) (eCons (eVar 5) eNil)) eNil)) (eCall (f_mirrored_word) (eCons (eCall (f_behind) (eCons (eVar 5) eNil)) eNil)))))) (sRet (eC (.bl false))) sNx)
def T3b4 (W : Wd) : SX := (sAsg (gT (gsC (gV 6) (gsC (gV 7) gsN))) (eCall (f__law_pick W) (eCons (eVar 1) (eCons (eCall (f__law_rows W) (eCons (eVar 1) eNil)) eNil))))
def T3b5 (W : Wd) : SX := (sIf (tOrD (tB (e2 dNe (eCall (f_is_row) (eCons (eVar 6) eNil)) (eVar 7))) (tOrD (tTru (eCall (f_is_cell) (eCons (eCall (f__law_pick W) (eCons (eVar 1) (eCons (eCall (f__law_strange) eNil) eNil))) eNil))) (tNotD (tTru (eCall (f_is_cell) (eCons (eTup (eCons (eCall (f__law_pick W) (eCons (eVar 1) (eCons (eVar 3) eNil))) (eCons (eC (.str "q")) eNil))) eNil)))))) (sRet (eC (.bl false))) sNx)
def T3b (W : Wd) : SX := (sSeq (T3b0 W) (sSeq (T3b1 W) (sSeq (T3b2 W) (sSeq (T3b3 W) (sSeq (T3b4 W) (T3b5 W))))))
def T3 (W : Wd) : SX := (sFor (gV 4) (iRng1D (eCons (eC (.int 5)) eNil)) (T3b W))
def T4 (W : Wd) : SX := (sAsg (gV 8) (eComp [6] (gV 6) (iOf (eTup (eCons (eC (.str "k")) (eCons (eC (.str "K")) (eCons (eC (.str "")) (eCons (eC .non) (eCons (eC (.int 3)) (eCons (eC (.str "c4bw")) (eCons (eC (.str "yarn")) (eCons (eTup (eCons (eC (.str "k")) eNil)) eNil)))))))))) tYesD (eCall (f_is_kind) (eCons (eVar 6) eNil))))
def T5 (W : Wd) : SX := (sRet (e2 dEq (eVar 8) (eLst (eCons (eC (.bl true)) (eCons (eC (.bl false)) (eCons (eC (.bl false)) (eCons (eC (.bl false)) (eCons (eC (.bl false)) (eCons (eC (.bl true)) (eCons (eC (.bl false)) (eCons (eC (.bl false)) eNil)))))))))))
def T (W : Wd) : SX := (sSeq (T0 W) (sSeq (T1 W) (sSeq (T2 W) (sSeq (T3 W) (sSeq (T4 W) (T5 W))))))
theorem T_eq (W : Wd) : g_law W = T W := rfl
theorem rows_mem (m : Nat) (h : m = 1 ∨ m = 2 ∨ m = 3) (q : D × Bool) (hq : q ∈ rowsL m) (n : Int) : f_is_row [q.1] n = some (.ok (.bl q.2), n) := by
  obtain ⟨i, hi, e⟩ := List.mem_iff_getElem.mp hq
  subst e
  rcases h with rfl | rfl | rfl
  · exact rows_1 ⟨i, hi⟩ n
  · exact rows_2 ⟨i, hi⟩ n
  · exact rows_3 ⟨i, hi⟩ n
theorem row_draw (W : Wd) (n : Int) : ∃ q : D × Bool, ∃ ds n1, f__law_rows W [.drw] n = some (.ok (.lst ds), n1) ∧ f__law_pick W [.drw, .lst ds] n1 = some (.ok (.tup [q.1, .bl q.2]), n1 + 1) ∧ ∀ n, f_is_row [q.1] n = some (.ok (.bl q.2), n) := by
  obtain ⟨m, hm, e⟩ := law_rows W n
  have ne : ((rowsL m).map fun q => (D.tup [q.1, .bl q.2])) ≠ [] := by unfold rowsL; simp
  obtain ⟨d, hd, e2⟩ := pick_ok W _ ne (n + 1)
  obtain ⟨q, hq, rfl⟩ := List.mem_map.mp hd
  exact ⟨q, _, _, e, e2, rows_mem m hm q hq⟩
theorem str_draw (W : Wd) (n : Int) : ∃ d, f__law_pick W [.drw, .lst strL] n = some (.ok d, n + 1) ∧ ∀ n, f_is_cell [d] n = some (.ok (.bl false), n) := by
  obtain ⟨d, hd, e2⟩ := pick_ok W strL (by unfold strL; simp) n
  obtain ⟨i, hi, rfl⟩ := List.mem_iff_getElem.mp hd
  exact ⟨_, e2, str_no ⟨i, hi⟩⟩
theorem b0 (W : Wd) (s4 s5 s6 s7 s8 s9 : Sl) (n : Int) : ∃ w : List C, ∃ n', w.length ≤ 6 ∧ T3b0 W [.val .scr, .val .drw, .val KT, .val (.lst NL), s4, s5, s6, s7, s8, s9] n = some (.ok (.nx [.val .scr, .val .drw, .val KT, .val (.lst NL), s4, .val (encT w), s6, s7, s8, s9]), n') := by
  obtain ⟨w, n', h, e⟩ := word_draw W n
  refine ⟨w, n', h, ?_⟩
  unfold T3b0
  simp [e]
theorem b1 (W : Wd) (w : List C) (h : w.length ≤ 6) (s4 s6 s7 s8 s9 : Sl) (n : Int) : T3b1 W [.val .scr, .val .drw, .val KT, .val (.lst NL), s4, .val (encT w), s6, s7, s8, s9] n = some (.ok (.nx [.val .scr, .val .drw, .val KT, .val (.lst NL), s4, .val (encT w), s6, s7, s8, s9]), n) := by
  have e1 := takes_ok w h n
  have e2 := takes2_ok w h n
  have e3 := makes_ok w h n
  have e4 := makes2_ok w h n
  generalize (w.map fun c => tk c.k).sum = t at e1 e2
  generalize (w.map fun c => mk c.k).sum = m at e3 e4
  unfold T3b1
  simp [e1, e2, e3, e4]
theorem b2 (W : Wd) (w : List C) (h : w.length ≤ 6) (s4 s6 s7 s8 s9 : Sl) (n : Int) : T3b2 W [.val .scr, .val .drw, .val KT, .val (.lst NL), s4, .val (encT w), s6, s7, s8, s9] n = some (.ok (.nx [.val .scr, .val .drw, .val KT, .val (.lst NL), s4, .val (encT w), s6, s7, s8, s9]), n) := by
  have e1 := behind_ok w h n
  have e2 := back_ok w h n
  have e3 := mirrored_ok w h n
  have e4 := mirror_ok w h n
  generalize (w.reverse.map bc) = t at e1 e2
  generalize (w.reverse.map mc) = m at e3 e4
  unfold T3b2
  simp [e1, e2, e3, e4, dNe_T]
theorem b3 (W : Wd) (w : List C) (h : w.length ≤ 6) (s4 s6 s7 s8 s9 : Sl) (n : Int) : T3b3 W [.val .scr, .val .drw, .val KT, .val (.lst NL), s4, .val (encT w), s6, s7, s8, s9] n = some (.ok (.nx [.val .scr, .val .drw, .val KT, .val (.lst NL), s4, .val (encT w), s6, s7, s8, s9]), n) := by
  have l1 : (w.reverse.map bc).length ≤ 6 := by simpa using h
  have l2 : (w.reverse.map mc).length ≤ 6 := by simpa using h
  have e1 := behind_ok w h n
  have e2 := behind_ok _ l1 n
  have e3 := mirrored_ok w h n
  have e4 := mirrored_ok _ l2 n
  have e5 := behind_ok _ l2 n
  have e6 := mirrored_ok _ l1 n
  rw [rev2 _ bc_bc] at e2
  rw [rev2 _ mc_mc] at e4
  rw [rev_mb] at e5
  generalize ((w.reverse.map bc).reverse.map mc) = u at e5 e6
  generalize (w.reverse.map bc) = t at *
  generalize (w.reverse.map mc) = m at *
  unfold T3b3
  simp [e1, e2, e3, e4, e5, e6, dNe_T]
theorem b45 (W : Wd) (s4 s5 s6 s7 s8 s9 : Sl) (n : Int) : ∃ t6 t7 n', sSeq (T3b4 W) (T3b5 W) [.val .scr, .val .drw, .val KT, .val (.lst NL), s4, s5, s6, s7, s8, s9] n = some (.ok (.nx [.val .scr, .val .drw, .val KT, .val (.lst NL), s4, s5, t6, t7, s8, s9]), n') := by
  obtain ⟨q, ds, n1, e1, e2, e3⟩ := row_draw W n
  obtain ⟨d, e4, e5⟩ := str_draw W (n1 + 1)
  obtain ⟨i, e6⟩ := pick_name W (n1 + 1 + 1)
  refine ⟨.val q.1, .val (.bl q.2), n1 + 1 + 1 + 1, ?_⟩
  refine seq_go (ρ1 := [.val .scr, .val .drw, .val KT, .val (.lst NL), s4, s5, .val q.1, .val (.bl q.2), s8, s9]) (n1 := n1 + 1) ?_ ?_
  · unfold T3b4
    simp [e1, e2]
  · unfold T3b5
    simp [e3, str_ok, e4, e5, e6, cell_q]
theorem turn (W : Wd) (s4 s5 s6 s7 s8 s9 : Sl) (n : Int) : ∃ t5 t6 t7 n', T3b W [.val .scr, .val .drw, .val KT, .val (.lst NL), s4, s5, s6, s7, s8, s9] n = some (.ok (.nx [.val .scr, .val .drw, .val KT, .val (.lst NL), s4, t5, t6, t7, s8, s9]), n') := by
  obtain ⟨w, n1, h, e0⟩ := b0 W s4 s5 s6 s7 s8 s9 n
  obtain ⟨t6, t7, n', e⟩ := b45 W s4 (.val (encT w)) s6 s7 s8 s9 n1
  exact ⟨.val (encT w), t6, t7, n', seq_go e0 (seq_go (b1 W w h s4 s6 s7 s8 s9 n1) (seq_go (b2 W w h s4 s6 s7 s8 s9 n1) (seq_go (b3 W w h s4 s6 s7 s8 s9 n1) e)))⟩
theorem loop (W : Wd) (s4 s5 s6 s7 s8 s9 : Sl) (n : Int) : ∃ t4 t5 t6 t7 n', T3 W [.val .scr, .val .drw, .val KT, .val (.lst NL), s4, s5, s6, s7, s8, s9] n = some (.ok (.nx [.val .scr, .val .drw, .val KT, .val (.lst NL), t4, t5, t6, t7, s8, s9]), n') := by
  have r := dRng1_ok (j := 5) (by omega) (by omega)
  obtain ⟨ρ', n', e, t4, t5, t6, t7, rfl⟩ := forD_inv (gV 4) (T3b W) (fun ρ _ => ∃ s4 s5 s6 s7 : Sl, ρ = [.val .scr, .val .drw, .val KT, .val (.lst NL), s4, s5, s6, s7, s8, s9]) (rngD 0 5) (fun d hd ρ m hI => by
    obtain ⟨s4, s5, s6, s7, rfl⟩ := hI
    obtain ⟨t5, t6, t7, n', e⟩ := turn W (.val d) s5 s6 s7 s8 s9 m
    exact ⟨_, _, _, rfl, e, _, _, _, _, rfl⟩) [.val .scr, .val .drw, .val KT, .val (.lst NL), s4, s5, s6, s7, s8, s9] n ⟨_, _, _, _, rfl⟩
  refine ⟨t4, t5, t6, t7, n', ?_⟩
  unfold T3
  rw [sFor_ap]
  simp only [bind_ap, iRng1D_ap, eCons_ap, eC_ap, eNil_ap, bindR_ok, pure_ap, r, opt_some, e]
theorem st0 (W : Wd) (n : Int) : T0 W (.val .scr :: .val .drw :: List.replicate (N_law.length - 2) Sl.no) n = some (.ok (.nx [.val .scr, .val .drw, .val KT, .no, .no, .no, .no, .no, .no, .no]), n) := by
  unfold T0
  rw [sAsg_ap]
  simp only [bind_ap, eCall_ap, eNil_ap, bindR_ok, kinds_ok]
  rfl
theorem st1 (W : Wd) (n : Int) : T1 W [.val .scr, .val .drw, .val KT, .no, .no, .no, .no, .no, .no, .no] n = some (.ok (.nx [.val .scr, .val .drw, .val KT, .val (.lst NL), .no, .no, .no, .no, .no, .no]), n) := by kernel_rfl
theorem st2 (W : Wd) (n : Int) : T2 W [.val .scr, .val .drw, .val KT, .val (.lst NL), .no, .no, .no, .no, .no, .no] n = some (.ok (.nx [.val .scr, .val .drw, .val KT, .val (.lst NL), .no, .no, .no, .no, .no, .no]), n) := by kernel_rfl
def WL : D := .lst [.bl true, .bl false, .bl false, .bl false, .bl false, .bl true, .bl false, .bl false]
theorem st4 (W : Wd) (s4 s5 s6 s7 : Sl) (n : Int) : T4 W [.val .scr, .val .drw, .val KT, .val (.lst NL), s4, s5, s6, s7, .no, .no] n = some (.ok (.nx [.val .scr, .val .drw, .val KT, .val (.lst NL), s4, s5, s6, s7, .val WL, .no]), n) := by
  cases s4 <;> cases s5 <;> cases s6 <;> cases s7 <;> kernel_rfl
theorem st5 (W : Wd) (s2 s3 s4 s5 s6 s7 s9 : Sl) (n : Int) : T5 W [.val .scr, .val .drw, s2, s3, s4, s5, s6, s7, .val WL, s9] n = some (.ok (.ret (.bl true)), n) := by kernel_rfl
theorem good (W : Wd) : ∃ n', g_law W (.val .scr :: .val .drw :: List.replicate (N_law.length - 2) Sl.no) 0 = some (.ok (.ret (.bl true)), n') := by
  obtain ⟨t4, t5, t6, t7, n', e⟩ := loop W .no .no .no .no .no .no 0
  refine ⟨n', ?_⟩
  rw [T_eq]
  exact seq_go (st0 W 0) (seq_go (st1 W 0) (seq_go (st2 W 0) (seq_go e (seq_go (st4 W _ _ _ _ _) (st5 W _ _ _ _ _ _ _ _)))))
end K02
end

section
set_option Elab.async false
set_option linter.all false
set_option autoImplicit false
set_option maxRecDepth 100000
set_option maxHeartbeats 4000000
/-! printed by gen.py -/
namespace P_k02_whole_kinds
open PySem PySem.Spec L2 DL
open PyProof.Rows (envOfC)
theorem all_mk {l : PySem.W.OpenLaw} {w : World} {K : PySem.W.Frag} {h : Heap} {mg : Str → Option Value} {fa : Addr} (X : K.In h) (G : h.Ns mainGlobals mg) (hfa : mg "law" = some (.ref fa))
    {t_MOST_CELLS : Tok}
    {t_MOST_REST : Tok}
    {aT_KINDS : Addr}
    {a_is_kind : Addr} {od_is_kind an_is_kind : Option Addr} {sl_is_kind : Array (Option Value)} {oc_is_kind kV_is_kind dc_is_kind pm_is_kind cd_is_kind ct_is_kind : Value}
    {a_is_yarn : Addr} {od_is_yarn an_is_yarn : Option Addr} {sl_is_yarn : Array (Option Value)} {oc_is_yarn kV_is_yarn dc_is_yarn pm_is_yarn cd_is_yarn ct_is_yarn : Value}
    {a_is_cell : Addr} {od_is_cell an_is_cell : Option Addr} {sl_is_cell : Array (Option Value)} {oc_is_cell kV_is_cell dc_is_cell pm_is_cell cd_is_cell ct_is_cell : Value}
    {a_is_word : Addr} {od_is_word an_is_word : Option Addr} {sl_is_word : Array (Option Value)} {oc_is_word kV_is_word dc_is_word pm_is_word cd_is_word ct_is_word : Value}
    {a_takes : Addr} {od_takes an_takes : Option Addr} {sl_takes : Array (Option Value)} {oc_takes kV_takes dc_takes pm_takes cd_takes ct_takes : Value}
    {a_makes : Addr} {od_makes an_makes : Option Addr} {sl_makes : Array (Option Value)} {oc_makes kV_makes dc_makes pm_makes cd_makes ct_makes : Value}
    {a_behind : Addr} {od_behind an_behind : Option Addr} {sl_behind : Array (Option Value)} {oc_behind kV_behind dc_behind pm_behind cd_behind ct_behind : Value}
    {a_mirrored_word : Addr} {od_mirrored_word an_mirrored_word : Option Addr} {sl_mirrored_word : Array (Option Value)} {oc_mirrored_word kV_mirrored_word dc_mirrored_word pm_mirrored_word cd_mirrored_word ct_mirrored_word : Value}
    {a_is_row : Addr} {od_is_row an_is_row : Option Addr} {sl_is_row : Array (Option Value)} {oc_is_row kV_is_row dc_is_row pm_is_row cd_is_row ct_is_row : Value}
    {a__law_number : Addr} {od__law_number an__law_number : Option Addr} {sl__law_number : Array (Option Value)} {oc__law_number kV__law_number dc__law_number pm__law_number cd__law_number ct__law_number : Value}
    {a__law_take : Addr} {od__law_take an__law_take : Option Addr} {sl__law_take : Array (Option Value)} {oc__law_take kV__law_take dc__law_take pm__law_take cd__law_take ct__law_take : Value}
    {a__law_pick : Addr} {od__law_pick an__law_pick : Option Addr} {sl__law_pick : Array (Option Value)} {oc__law_pick kV__law_pick dc__law_pick pm__law_pick cd__law_pick ct__law_pick : Value}
    {a__law_kinds : Addr} {od__law_kinds an__law_kinds : Option Addr} {sl__law_kinds : Array (Option Value)} {oc__law_kinds kV__law_kinds dc__law_kinds pm__law_kinds cd__law_kinds ct__law_kinds : Value}
    {a__law_takes : Addr} {od__law_takes an__law_takes : Option Addr} {sl__law_takes : Array (Option Value)} {oc__law_takes kV__law_takes dc__law_takes pm__law_takes cd__law_takes ct__law_takes : Value}
    {a__law_makes : Addr} {od__law_makes an__law_makes : Option Addr} {sl__law_makes : Array (Option Value)} {oc__law_makes kV__law_makes dc__law_makes pm__law_makes cd__law_makes ct__law_makes : Value}
    {a__law_back : Addr} {od__law_back an__law_back : Option Addr} {sl__law_back : Array (Option Value)} {oc__law_back kV__law_back dc__law_back pm__law_back cd__law_back ct__law_back : Value}
    {a__law_mirror : Addr} {od__law_mirror an__law_mirror : Option Addr} {sl__law_mirror : Array (Option Value)} {oc__law_mirror kV__law_mirror dc__law_mirror pm__law_mirror cd__law_mirror ct__law_mirror : Value}
    {a__law_any_word : Addr} {od__law_any_word an__law_any_word : Option Addr} {sl__law_any_word : Array (Option Value)} {oc__law_any_word kV__law_any_word dc__law_any_word pm__law_any_word cd__law_any_word ct__law_any_word : Value}
    {a__law_strange : Addr} {od__law_strange an__law_strange : Option Addr} {sl__law_strange : Array (Option Value)} {oc__law_strange kV__law_strange dc__law_strange pm__law_strange cd__law_strange ct__law_strange : Value}
    {a__law_rows : Addr} {od__law_rows an__law_rows : Option Addr} {sl__law_rows : Array (Option Value)} {oc__law_rows kV__law_rows dc__law_rows pm__law_rows cd__law_rows ct__law_rows : Value}
    {a_law : Addr} {od_law an_law : Option Addr} {sl_law : Array (Option Value)} {oc_law kV_law dc_law pm_law cd_law ct_law : Value}
    (b_abs : PySem.W.nsIn K mainGlobals "abs" = some none)
    (b_all : PySem.W.nsIn K mainGlobals "all" = some none)
    (b_any : PySem.W.nsIn K mainGlobals "any" = some none)
    (b_int : PySem.W.nsIn K mainGlobals "int" = some none)
    (b_isinstance : PySem.W.nsIn K mainGlobals "isinstance" = some none)
    (b_len : PySem.W.nsIn K mainGlobals "len" = some none)
    (b_list : PySem.W.nsIn K mainGlobals "list" = some none)
    (b_range : PySem.W.nsIn K mainGlobals "range" = some none)
    (b_sorted : PySem.W.nsIn K mainGlobals "sorted" = some none)
    (b_str : PySem.W.nsIn K mainGlobals "str" = some none)
    (b_sum : PySem.W.nsIn K mainGlobals "sum" = some none)
    (b_tuple : PySem.W.nsIn K mainGlobals "tuple" = some none)
    (c_MOST_CELLS : PySem.W.nsIn K mainGlobals "MOST_CELLS" = some (some (.int 60 t_MOST_CELLS)))
    (c_MOST_REST : PySem.W.nsIn K mainGlobals "MOST_REST" = some (some (.int 30 t_MOST_REST)))
    (kt_KINDS : PySem.W.nsIn K mainGlobals "KINDS" = some (some (.ref aT_KINDS)))
    (kd_KINDS : He.dicW K aT_KINDS = some (He.keysIn w.params (tb_KINDS.map (·.1)))) (kv_KINDS : tabDB K aT_KINDS tb_KINDS = true)
    (x_is_kind : PySem.W.nsIn K mainGlobals "is_kind" = some (some (.ref a_is_kind)))
    (l_is_kind : K.lookup a_is_kind = some ⟨oc_is_kind, od_is_kind, .func (PySem.W.fnOf "is_kind" "is_kind" (defArgs s_is_kind) (defBody s_is_kind) (defScope s_is_kind) .none kV_is_kind dc_is_kind pm_is_kind an_is_kind cd_is_kind ct_is_kind), sl_is_kind⟩)
    (d_is_kind : PySem.W.codeIn K cd_is_kind "is_kind" = true) (k_is_kind : PySem.W.keepIn K (.ref a_is_kind) = true)
    (x_is_yarn : PySem.W.nsIn K mainGlobals "is_yarn" = some (some (.ref a_is_yarn)))
    (l_is_yarn : K.lookup a_is_yarn = some ⟨oc_is_yarn, od_is_yarn, .func (PySem.W.fnOf "is_yarn" "is_yarn" (defArgs s_is_yarn) (defBody s_is_yarn) (defScope s_is_yarn) .none kV_is_yarn dc_is_yarn pm_is_yarn an_is_yarn cd_is_yarn ct_is_yarn), sl_is_yarn⟩)
    (d_is_yarn : PySem.W.codeIn K cd_is_yarn "is_yarn" = true) (k_is_yarn : PySem.W.keepIn K (.ref a_is_yarn) = true)
    (x_is_cell : PySem.W.nsIn K mainGlobals "is_cell" = some (some (.ref a_is_cell)))
    (l_is_cell : K.lookup a_is_cell = some ⟨oc_is_cell, od_is_cell, .func (PySem.W.fnOf "is_cell" "is_cell" (defArgs s_is_cell) (defBody s_is_cell) (defScope s_is_cell) .none kV_is_cell dc_is_cell pm_is_cell an_is_cell cd_is_cell ct_is_cell), sl_is_cell⟩)
    (d_is_cell : PySem.W.codeIn K cd_is_cell "is_cell" = true) (k_is_cell : PySem.W.keepIn K (.ref a_is_cell) = true)
    (x_is_word : PySem.W.nsIn K mainGlobals "is_word" = some (some (.ref a_is_word)))
    (l_is_word : K.lookup a_is_word = some ⟨oc_is_word, od_is_word, .func (PySem.W.fnOf "is_word" "is_word" (defArgs s_is_word) (defBody s_is_word) (defScope s_is_word) .none kV_is_word dc_is_word pm_is_word an_is_word cd_is_word ct_is_word), sl_is_word⟩)
    (d_is_word : PySem.W.codeIn K cd_is_word "is_word" = true) (k_is_word : PySem.W.keepIn K (.ref a_is_word) = true)
    (x_takes : PySem.W.nsIn K mainGlobals "takes" = some (some (.ref a_takes)))
    (l_takes : K.lookup a_takes = some ⟨oc_takes, od_takes, .func (PySem.W.fnOf "takes" "takes" (defArgs s_takes) (defBody s_takes) (defScope s_takes) .none kV_takes dc_takes pm_takes an_takes cd_takes ct_takes), sl_takes⟩)
    (d_takes : PySem.W.codeIn K cd_takes "takes" = true) (k_takes : PySem.W.keepIn K (.ref a_takes) = true)
    (x_makes : PySem.W.nsIn K mainGlobals "makes" = some (some (.ref a_makes)))
    (l_makes : K.lookup a_makes = some ⟨oc_makes, od_makes, .func (PySem.W.fnOf "makes" "makes" (defArgs s_makes) (defBody s_makes) (defScope s_makes) .none kV_makes dc_makes pm_makes an_makes cd_makes ct_makes), sl_makes⟩)
    (d_makes : PySem.W.codeIn K cd_makes "makes" = true) (k_makes : PySem.W.keepIn K (.ref a_makes) = true)
    (x_behind : PySem.W.nsIn K mainGlobals "behind" = some (some (.ref a_behind)))
    (l_behind : K.lookup a_behind = some ⟨oc_behind, od_behind, .func (PySem.W.fnOf "behind" "behind" (defArgs s_behind) (defBody s_behind) (defScope s_behind) .none kV_behind dc_behind pm_behind an_behind cd_behind ct_behind), sl_behind⟩)
    (d_behind : PySem.W.codeIn K cd_behind "behind" = true) (k_behind : PySem.W.keepIn K (.ref a_behind) = true)
    (x_mirrored_word : PySem.W.nsIn K mainGlobals "mirrored_word" = some (some (.ref a_mirrored_word)))
    (l_mirrored_word : K.lookup a_mirrored_word = some ⟨oc_mirrored_word, od_mirrored_word, .func (PySem.W.fnOf "mirrored_word" "mirrored_word" (defArgs s_mirrored_word) (defBody s_mirrored_word) (defScope s_mirrored_word) .none kV_mirrored_word dc_mirrored_word pm_mirrored_word an_mirrored_word cd_mirrored_word ct_mirrored_word), sl_mirrored_word⟩)
    (d_mirrored_word : PySem.W.codeIn K cd_mirrored_word "mirrored_word" = true) (k_mirrored_word : PySem.W.keepIn K (.ref a_mirrored_word) = true)
    (x_is_row : PySem.W.nsIn K mainGlobals "is_row" = some (some (.ref a_is_row)))
    (l_is_row : K.lookup a_is_row = some ⟨oc_is_row, od_is_row, .func (PySem.W.fnOf "is_row" "is_row" (defArgs s_is_row) (defBody s_is_row) (defScope s_is_row) .none kV_is_row dc_is_row pm_is_row an_is_row cd_is_row ct_is_row), sl_is_row⟩)
    (d_is_row : PySem.W.codeIn K cd_is_row "is_row" = true) (k_is_row : PySem.W.keepIn K (.ref a_is_row) = true)
    (x__law_number : PySem.W.nsIn K mainGlobals "_law_number" = some (some (.ref a__law_number)))
    (l__law_number : K.lookup a__law_number = some ⟨oc__law_number, od__law_number, .func (PySem.W.fnOf "_law_number" "_law_number" (defArgs s__law_number) (defBody s__law_number) (defScope s__law_number) .none kV__law_number dc__law_number pm__law_number an__law_number cd__law_number ct__law_number), sl__law_number⟩)
    (d__law_number : PySem.W.codeIn K cd__law_number "_law_number" = true) (k__law_number : PySem.W.keepIn K (.ref a__law_number) = true)
    (x__law_take : PySem.W.nsIn K mainGlobals "_law_take" = some (some (.ref a__law_take)))
    (l__law_take : K.lookup a__law_take = some ⟨oc__law_take, od__law_take, .func (PySem.W.fnOf "_law_take" "_law_take" (defArgs s__law_take) (defBody s__law_take) (defScope s__law_take) .none kV__law_take dc__law_take pm__law_take an__law_take cd__law_take ct__law_take), sl__law_take⟩)
    (d__law_take : PySem.W.codeIn K cd__law_take "_law_take" = true) (k__law_take : PySem.W.keepIn K (.ref a__law_take) = true)
    (x__law_pick : PySem.W.nsIn K mainGlobals "_law_pick" = some (some (.ref a__law_pick)))
    (l__law_pick : K.lookup a__law_pick = some ⟨oc__law_pick, od__law_pick, .func (PySem.W.fnOf "_law_pick" "_law_pick" (defArgs s__law_pick) (defBody s__law_pick) (defScope s__law_pick) .none kV__law_pick dc__law_pick pm__law_pick an__law_pick cd__law_pick ct__law_pick), sl__law_pick⟩)
    (d__law_pick : PySem.W.codeIn K cd__law_pick "_law_pick" = true) (k__law_pick : PySem.W.keepIn K (.ref a__law_pick) = true)
    (x__law_kinds : PySem.W.nsIn K mainGlobals "_law_kinds" = some (some (.ref a__law_kinds)))
    (l__law_kinds : K.lookup a__law_kinds = some ⟨oc__law_kinds, od__law_kinds, .func (PySem.W.fnOf "_law_kinds" "_law_kinds" (defArgs s__law_kinds) (defBody s__law_kinds) (defScope s__law_kinds) .none kV__law_kinds dc__law_kinds pm__law_kinds an__law_kinds cd__law_kinds ct__law_kinds), sl__law_kinds⟩)
    (d__law_kinds : PySem.W.codeIn K cd__law_kinds "_law_kinds" = true) (k__law_kinds : PySem.W.keepIn K (.ref a__law_kinds) = true)
    (x__law_takes : PySem.W.nsIn K mainGlobals "_law_takes" = some (some (.ref a__law_takes)))
    (l__law_takes : K.lookup a__law_takes = some ⟨oc__law_takes, od__law_takes, .func (PySem.W.fnOf "_law_takes" "_law_takes" (defArgs s__law_takes) (defBody s__law_takes) (defScope s__law_takes) .none kV__law_takes dc__law_takes pm__law_takes an__law_takes cd__law_takes ct__law_takes), sl__law_takes⟩)
    (d__law_takes : PySem.W.codeIn K cd__law_takes "_law_takes" = true) (k__law_takes : PySem.W.keepIn K (.ref a__law_takes) = true)
    (x__law_makes : PySem.W.nsIn K mainGlobals "_law_makes" = some (some (.ref a__law_makes)))
    (l__law_makes : K.lookup a__law_makes = some ⟨oc__law_makes, od__law_makes, .func (PySem.W.fnOf "_law_makes" "_law_makes" (defArgs s__law_makes) (defBody s__law_makes) (defScope s__law_makes) .none kV__law_makes dc__law_makes pm__law_makes an__law_makes cd__law_makes ct__law_makes), sl__law_makes⟩)
    (d__law_makes : PySem.W.codeIn K cd__law_makes "_law_makes" = true) (k__law_makes : PySem.W.keepIn K (.ref a__law_makes) = true)
    (x__law_back : PySem.W.nsIn K mainGlobals "_law_back" = some (some (.ref a__law_back)))
    (l__law_back : K.lookup a__law_back = some ⟨oc__law_back, od__law_back, .func (PySem.W.fnOf "_law_back" "_law_back" (defArgs s__law_back) (defBody s__law_back) (defScope s__law_back) .none kV__law_back dc__law_back pm__law_back an__law_back cd__law_back ct__law_back), sl__law_back⟩)
    (d__law_back : PySem.W.codeIn K cd__law_back "_law_back" = true) (k__law_back : PySem.W.keepIn K (.ref a__law_back) = true)
    (x__law_mirror : PySem.W.nsIn K mainGlobals "_law_mirror" = some (some (.ref a__law_mirror)))
    (l__law_mirror : K.lookup a__law_mirror = some ⟨oc__law_mirror, od__law_mirror, .func (PySem.W.fnOf "_law_mirror" "_law_mirror" (defArgs s__law_mirror) (defBody s__law_mirror) (defScope s__law_mirror) .none kV__law_mirror dc__law_mirror pm__law_mirror an__law_mirror cd__law_mirror ct__law_mirror), sl__law_mirror⟩)
    (d__law_mirror : PySem.W.codeIn K cd__law_mirror "_law_mirror" = true) (k__law_mirror : PySem.W.keepIn K (.ref a__law_mirror) = true)
    (x__law_any_word : PySem.W.nsIn K mainGlobals "_law_any_word" = some (some (.ref a__law_any_word)))
    (l__law_any_word : K.lookup a__law_any_word = some ⟨oc__law_any_word, od__law_any_word, .func (PySem.W.fnOf "_law_any_word" "_law_any_word" (defArgs s__law_any_word) (defBody s__law_any_word) (defScope s__law_any_word) .none kV__law_any_word dc__law_any_word pm__law_any_word an__law_any_word cd__law_any_word ct__law_any_word), sl__law_any_word⟩)
    (d__law_any_word : PySem.W.codeIn K cd__law_any_word "_law_any_word" = true) (k__law_any_word : PySem.W.keepIn K (.ref a__law_any_word) = true)
    (x__law_strange : PySem.W.nsIn K mainGlobals "_law_strange" = some (some (.ref a__law_strange)))
    (l__law_strange : K.lookup a__law_strange = some ⟨oc__law_strange, od__law_strange, .func (PySem.W.fnOf "_law_strange" "_law_strange" (defArgs s__law_strange) (defBody s__law_strange) (defScope s__law_strange) .none kV__law_strange dc__law_strange pm__law_strange an__law_strange cd__law_strange ct__law_strange), sl__law_strange⟩)
    (d__law_strange : PySem.W.codeIn K cd__law_strange "_law_strange" = true) (k__law_strange : PySem.W.keepIn K (.ref a__law_strange) = true)
    (x__law_rows : PySem.W.nsIn K mainGlobals "_law_rows" = some (some (.ref a__law_rows)))
    (l__law_rows : K.lookup a__law_rows = some ⟨oc__law_rows, od__law_rows, .func (PySem.W.fnOf "_law_rows" "_law_rows" (defArgs s__law_rows) (defBody s__law_rows) (defScope s__law_rows) .none kV__law_rows dc__law_rows pm__law_rows an__law_rows cd__law_rows ct__law_rows), sl__law_rows⟩)
    (d__law_rows : PySem.W.codeIn K cd__law_rows "_law_rows" = true) (k__law_rows : PySem.W.keepIn K (.ref a__law_rows) = true)
    (x_law : PySem.W.nsIn K mainGlobals "law" = some (some (.ref a_law)))
    (l_law : K.lookup a_law = some ⟨oc_law, od_law, .func (PySem.W.fnOf "law" "law" (defArgs s_law) (defBody s_law) (defScope s_law) .none kV_law dc_law pm_law an_law cd_law ct_law), sl_law⟩)
    (d_law : PySem.W.codeIn K cd_law "law" = true) (k_law : PySem.W.keepIn K (.ref a_law) = true) :
    ∃ fd : FuncData, (∀ (s : Shared) (v : Value), BindsTo s fd ⟨[v], []⟩ [("_law_script", v)]) ∧ ∀ base : Heap, K.In base → base.Ns mainGlobals mg → FnOk l.prog w K mg base CX0 5 fa fd ["_law_script"] (spLaw K) := by
  have e := hfa.symm.trans (PySem.W.mg_of X G x_law)
  cases e
  let cl : Nat → Addr := fun i => 0
  have TT : ∀ W : Wd, W.cl = cl → Txt K w mg W := fun W hW => ⟨PySem.W.mg_none_of X G b_abs, PySem.W.mg_none_of X G b_all, PySem.W.mg_none_of X G b_any, PySem.W.mg_none_of X G b_int, PySem.W.mg_none_of X G b_isinstance, PySem.W.mg_none_of X G b_len, PySem.W.mg_none_of X G b_list, PySem.W.mg_none_of X G b_range, PySem.W.mg_none_of X G b_sorted, PySem.W.mg_none_of X G b_str, PySem.W.mg_none_of X G b_sum, PySem.W.mg_none_of X G b_tuple, ⟨_, PySem.W.mg_of X G c_MOST_CELLS⟩, ⟨_, PySem.W.mg_of X G c_MOST_REST⟩, ⟨_, PySem.W.mg_of X G kt_KINDS, ktabs_of kd_KINDS kv_KINDS (by decide)⟩⟩
  have F_is_kind := fun_mk (st := s_is_kind) l_is_kind d_is_kind k_is_kind
  have B_is_kind := F_is_kind.binds (ps := ["thing"]) fun _ _ _ _ _ _ us hl => match us, hl with | [_], _ => rfl
  have F_is_yarn := fun_mk (st := s_is_yarn) l_is_yarn d_is_yarn k_is_yarn
  have B_is_yarn := F_is_yarn.binds (ps := ["thing"]) fun _ _ _ _ _ _ us hl => match us, hl with | [_], _ => rfl
  have F_is_cell := fun_mk (st := s_is_cell) l_is_cell d_is_cell k_is_cell
  have B_is_cell := F_is_cell.binds (ps := ["thing"]) fun _ _ _ _ _ _ us hl => match us, hl with | [_], _ => rfl
  have F_is_word := fun_mk (st := s_is_word) l_is_word d_is_word k_is_word
  have B_is_word := F_is_word.binds (ps := ["thing"]) fun _ _ _ _ _ _ us hl => match us, hl with | [_], _ => rfl
  have F_takes := fun_mk (st := s_takes) l_takes d_takes k_takes
  have B_takes := F_takes.binds (ps := ["word"]) fun _ _ _ _ _ _ us hl => match us, hl with | [_], _ => rfl
  have F_makes := fun_mk (st := s_makes) l_makes d_makes k_makes
  have B_makes := F_makes.binds (ps := ["word"]) fun _ _ _ _ _ _ us hl => match us, hl with | [_], _ => rfl
  have F_behind := fun_mk (st := s_behind) l_behind d_behind k_behind
  have B_behind := F_behind.binds (ps := ["word"]) fun _ _ _ _ _ _ us hl => match us, hl with | [_], _ => rfl
  have F_mirrored_word := fun_mk (st := s_mirrored_word) l_mirrored_word d_mirrored_word k_mirrored_word
  have B_mirrored_word := F_mirrored_word.binds (ps := ["word"]) fun _ _ _ _ _ _ us hl => match us, hl with | [_], _ => rfl
  have F_is_row := fun_mk (st := s_is_row) l_is_row d_is_row k_is_row
  have B_is_row := F_is_row.binds (ps := ["thing"]) fun _ _ _ _ _ _ us hl => match us, hl with | [_], _ => rfl
  have F__law_number := fun_mk (st := s__law_number) l__law_number d__law_number k__law_number
  have B__law_number := F__law_number.binds (ps := ["_law_script", "_law_index"]) fun _ _ _ _ _ _ us hl => match us, hl with | [_, _], _ => rfl
  have F__law_take := fun_mk (st := s__law_take) l__law_take d__law_take k__law_take
  have B__law_take := F__law_take.binds (ps := ["_law_draw", "_law_many"]) fun _ _ _ _ _ _ us hl => match us, hl with | [_, _], _ => rfl
  have F__law_pick := fun_mk (st := s__law_pick) l__law_pick d__law_pick k__law_pick
  have B__law_pick := F__law_pick.binds (ps := ["_law_draw", "_law_items"]) fun _ _ _ _ _ _ us hl => match us, hl with | [_, _], _ => rfl
  have F__law_kinds := fun_mk (st := s__law_kinds) l__law_kinds d__law_kinds k__law_kinds
  have B__law_kinds := F__law_kinds.binds (ps := []) fun _ _ _ _ _ _ us hl => match us, hl with | [], _ => rfl
  have F__law_takes := fun_mk (st := s__law_takes) l__law_takes d__law_takes k__law_takes
  have B__law_takes := F__law_takes.binds (ps := ["_law_word", "_law_kinds_here"]) fun _ _ _ _ _ _ us hl => match us, hl with | [_, _], _ => rfl
  have F__law_makes := fun_mk (st := s__law_makes) l__law_makes d__law_makes k__law_makes
  have B__law_makes := F__law_makes.binds (ps := ["_law_word", "_law_kinds_here"]) fun _ _ _ _ _ _ us hl => match us, hl with | [_, _], _ => rfl
  have F__law_back := fun_mk (st := s__law_back) l__law_back d__law_back k__law_back
  have B__law_back := F__law_back.binds (ps := ["_law_word", "_law_kinds_here"]) fun _ _ _ _ _ _ us hl => match us, hl with | [_, _], _ => rfl
  have F__law_mirror := fun_mk (st := s__law_mirror) l__law_mirror d__law_mirror k__law_mirror
  have B__law_mirror := F__law_mirror.binds (ps := ["_law_word", "_law_kinds_here"]) fun _ _ _ _ _ _ us hl => match us, hl with | [_, _], _ => rfl
  have F__law_any_word := fun_mk (st := s__law_any_word) l__law_any_word d__law_any_word k__law_any_word
  have B__law_any_word := F__law_any_word.binds (ps := ["_law_draw", "_law_names"]) fun _ _ _ _ _ _ us hl => match us, hl with | [_, _], _ => rfl
  have F__law_strange := fun_mk (st := s__law_strange) l__law_strange d__law_strange k__law_strange
  have B__law_strange := F__law_strange.binds (ps := []) fun _ _ _ _ _ _ us hl => match us, hl with | [], _ => rfl
  have F__law_rows := fun_mk (st := s__law_rows) l__law_rows d__law_rows k__law_rows
  have B__law_rows := F__law_rows.binds (ps := ["_law_draw"]) fun _ _ _ _ _ _ us hl => match us, hl with | [_], _ => rfl
  have F_law := fun_mk (st := s_law) l_law d_law k_law
  refine ⟨PySem.W.fnOf "law" "law" (defArgs s_law) (defBody s_law) (defScope s_law) .none kV_law dc_law pm_law an_law cd_law ct_law, fun s v => .of_eq rfl, fun base _ _ => ?_⟩
  refine okLaw (cl := cl) (rest := (defBody s_law).drop 1) (fun W => g_law W) F_law sc_law rfl (fun cdv A outer s H E => ps_set (i := 1) sc_law.nd rfl (Or.inl rfl) (pe_lst (pa_cons (pv 0) (pa_cons pe_int pa_nil)))) (fun W hW => ?_) (fun W h _ => K02.good W) (by decide)
  have T := TT W hW
  have G_is_kind : Cal l.prog w K mg base "is_kind" 1 (spD K W (f_is_kind) 1) := ⟨_, _, _, ok_is_kind F_is_kind T , PySem.W.mg_of X G x_is_kind, k_is_kind, B_is_kind⟩
  have G_is_yarn : Cal l.prog w K mg base "is_yarn" 1 (spD K W (f_is_yarn) 1) := ⟨_, _, _, ok_is_yarn F_is_yarn T , PySem.W.mg_of X G x_is_yarn, k_is_yarn, B_is_yarn⟩
  have G_is_cell : Cal l.prog w K mg base "is_cell" 2 (spD K W (f_is_cell) 1) := ⟨_, _, _, ok_is_cell F_is_cell T G_is_kind G_is_yarn, PySem.W.mg_of X G x_is_cell, k_is_cell, B_is_cell⟩
  have G_is_word : Cal l.prog w K mg base "is_word" 3 (spD K W (f_is_word) 1) := ⟨_, _, _, ok_is_word F_is_word T G_is_cell, PySem.W.mg_of X G x_is_word, k_is_word, B_is_word⟩
  have G_takes : Cal l.prog w K mg base "takes" 1 (spD K W (f_takes) 1) := ⟨_, _, _, ok_takes F_takes T , PySem.W.mg_of X G x_takes, k_takes, B_takes⟩
  have G_makes : Cal l.prog w K mg base "makes" 1 (spD K W (f_makes) 1) := ⟨_, _, _, ok_makes F_makes T , PySem.W.mg_of X G x_makes, k_makes, B_makes⟩
  have G_behind : Cal l.prog w K mg base "behind" 1 (spD K W (f_behind) 1) := ⟨_, _, _, ok_behind F_behind T , PySem.W.mg_of X G x_behind, k_behind, B_behind⟩
  have G_mirrored_word : Cal l.prog w K mg base "mirrored_word" 1 (spD K W (f_mirrored_word) 1) := ⟨_, _, _, ok_mirrored_word F_mirrored_word T , PySem.W.mg_of X G x_mirrored_word, k_mirrored_word, B_mirrored_word⟩
  have G_is_row : Cal l.prog w K mg base "is_row" 4 (spD K W (f_is_row) 1) := ⟨_, _, _, ok_is_row F_is_row T G_is_word G_takes, PySem.W.mg_of X G x_is_row, k_is_row, B_is_row⟩
  have G__law_number : Cal l.prog w K mg base "_law_number" 1 (spD K W (f__law_number W) 2) := ⟨_, _, _, ok__law_number F__law_number T , PySem.W.mg_of X G x__law_number, k__law_number, B__law_number⟩
  have G__law_take : Cal l.prog w K mg base "_law_take" 2 (spD K W (f__law_take W) 2) := ⟨_, _, _, ok__law_take F__law_take T G__law_number, PySem.W.mg_of X G x__law_take, k__law_take, B__law_take⟩
  have G__law_pick : Cal l.prog w K mg base "_law_pick" 3 (spD K W (f__law_pick W) 2) := ⟨_, _, _, ok__law_pick F__law_pick T G__law_take, PySem.W.mg_of X G x__law_pick, k__law_pick, B__law_pick⟩
  have G__law_kinds : Cal l.prog w K mg base "_law_kinds" 1 (spD K W (f__law_kinds) 0) := ⟨_, _, _, ok__law_kinds F__law_kinds T , PySem.W.mg_of X G x__law_kinds, k__law_kinds, B__law_kinds⟩
  have G__law_takes : Cal l.prog w K mg base "_law_takes" 1 (spD K W (f__law_takes) 2) := ⟨_, _, _, ok__law_takes F__law_takes T , PySem.W.mg_of X G x__law_takes, k__law_takes, B__law_takes⟩
  have G__law_makes : Cal l.prog w K mg base "_law_makes" 1 (spD K W (f__law_makes) 2) := ⟨_, _, _, ok__law_makes F__law_makes T , PySem.W.mg_of X G x__law_makes, k__law_makes, B__law_makes⟩
  have G__law_back : Cal l.prog w K mg base "_law_back" 1 (spD K W (f__law_back) 2) := ⟨_, _, _, ok__law_back F__law_back T , PySem.W.mg_of X G x__law_back, k__law_back, B__law_back⟩
  have G__law_mirror : Cal l.prog w K mg base "_law_mirror" 1 (spD K W (f__law_mirror) 2) := ⟨_, _, _, ok__law_mirror F__law_mirror T , PySem.W.mg_of X G x__law_mirror, k__law_mirror, B__law_mirror⟩
  have G__law_any_word : Cal l.prog w K mg base "_law_any_word" 4 (spD K W (f__law_any_word W) 2) := ⟨_, _, _, ok__law_any_word F__law_any_word T G__law_pick G__law_take, PySem.W.mg_of X G x__law_any_word, k__law_any_word, B__law_any_word⟩
  have G__law_strange : Cal l.prog w K mg base "_law_strange" 1 (spD K W (f__law_strange) 0) := ⟨_, _, _, ok__law_strange F__law_strange T , PySem.W.mg_of X G x__law_strange, k__law_strange, B__law_strange⟩
  have G__law_rows : Cal l.prog w K mg base "_law_rows" 3 (spD K W (f__law_rows W) 1) := ⟨_, _, _, ok__law_rows F__law_rows T G__law_take, PySem.W.mg_of X G x__law_rows, k__law_rows, B__law_rows⟩
  exact body_law F_law T G__law_any_word G__law_back G__law_kinds G__law_makes G__law_mirror G__law_pick G__law_rows G__law_strange G__law_takes G_behind G_is_cell G_is_kind G_is_row G_makes G_mirrored_word G_takes (Nat.le_refl _)
end P_k02_whole_kinds
open PySem PySem.W PyProof.Rows in
set_option maxRecDepth 100000 in
set_option maxHeartbeats 0 in
theorem PySem.Challenge.cw_allstitches_k02_whole_kinds_holds : PySem.Challenge.rw_allstitches_k02_whole_kinds.Holds := by
  w_on; o_law; k_head; (case hw => w_witness2)
  k_fill
  refine DL.law_walk (l := PySem.Challenge.rw_allstitches_k02_whole_kinds) (k := 5) (x := "_law_script") rfl rfl ⟨rfl, by decide, by decide⟩ (fun w h Y => PySem.W.kIn_of Y) ?F
  case F =>
    intro w mg fa h KX G hmg
    refine' P_k02_whole_kinds.all_mk KX G hmg ?b_abs ?b_all ?b_any ?b_int ?b_isinstance ?b_len ?b_list ?b_range ?b_sorted ?b_str ?b_sum ?b_tuple ?c_MOST_CELLS ?c_MOST_REST ?kt_KINDS ?kd_KINDS ?kv_KINDS ?x_is_kind ?l_is_kind ?d_is_kind ?k_is_kind ?x_is_yarn ?l_is_yarn ?d_is_yarn ?k_is_yarn ?x_is_cell ?l_is_cell ?d_is_cell ?k_is_cell ?x_is_word ?l_is_word ?d_is_word ?k_is_word ?x_takes ?l_takes ?d_takes ?k_takes ?x_makes ?l_makes ?d_makes ?k_makes ?x_behind ?l_behind ?d_behind ?k_behind ?x_mirrored_word ?l_mirrored_word ?d_mirrored_word ?k_mirrored_word ?x_is_row ?l_is_row ?d_is_row ?k_is_row ?x__law_number ?l__law_number ?d__law_number ?k__law_number ?x__law_take ?l__law_take ?d__law_take ?k__law_take ?x__law_pick ?l__law_pick ?d__law_pick ?k__law_pick ?x__law_kinds ?l__law_kinds ?d__law_kinds ?k__law_kinds ?x__law_takes ?l__law_takes ?d__law_takes ?k__law_takes ?x__law_makes ?l__law_makes ?d__law_makes ?k__law_makes ?x__law_back ?l__law_back ?d__law_back ?k__law_back ?x__law_mirror ?l__law_mirror ?d__law_mirror ?k__law_mirror ?x__law_any_word ?l__law_any_word ?d__law_any_word ?k__law_any_word ?x__law_strange ?l__law_strange ?d__law_strange ?k__law_strange ?x__law_rows ?l__law_rows ?d__law_rows ?k__law_rows ?x_law ?l_law ?d_law ?k_law
    (case b_abs => k_is)
    (case b_all => k_is)
    (case b_any => k_is)
    (case b_int => k_is)
    (case b_isinstance => k_is)
    (case b_len => k_is)
    (case b_list => k_is)
    (case b_range => k_is)
    (case b_sorted => k_is)
    (case b_str => k_is)
    (case b_sum => k_is)
    (case b_tuple => k_is)
    (case c_MOST_CELLS => k_is)
    (case c_MOST_REST => k_is)
    (case kt_KINDS => k_is)
    (case kd_KINDS => kernel_rfl)
    (case kv_KINDS => kernel_rfl)
    (case x_is_kind => k_is)
    (case l_is_kind => k_is)
    (case d_is_kind => k_is)
    (case k_is_kind => k_is)
    (case x_is_yarn => k_is)
    (case l_is_yarn => k_is)
    (case d_is_yarn => k_is)
    (case k_is_yarn => k_is)
    (case x_is_cell => k_is)
    (case l_is_cell => k_is)
    (case d_is_cell => k_is)
    (case k_is_cell => k_is)
    (case x_is_word => k_is)
    (case l_is_word => k_is)
    (case d_is_word => k_is)
    (case k_is_word => k_is)
    (case x_takes => k_is)
    (case l_takes => k_is)
    (case d_takes => k_is)
    (case k_takes => k_is)
    (case x_makes => k_is)
    (case l_makes => k_is)
    (case d_makes => k_is)
    (case k_makes => k_is)
    (case x_behind => k_is)
    (case l_behind => k_is)
    (case d_behind => k_is)
    (case k_behind => k_is)
    (case x_mirrored_word => k_is)
    (case l_mirrored_word => k_is)
    (case d_mirrored_word => k_is)
    (case k_mirrored_word => k_is)
    (case x_is_row => k_is)
    (case l_is_row => k_is)
    (case d_is_row => k_is)
    (case k_is_row => k_is)
    (case x__law_number => k_is)
    (case l__law_number => k_is)
    (case d__law_number => k_is)
    (case k__law_number => k_is)
    (case x__law_take => k_is)
    (case l__law_take => k_is)
    (case d__law_take => k_is)
    (case k__law_take => k_is)
    (case x__law_pick => k_is)
    (case l__law_pick => k_is)
    (case d__law_pick => k_is)
    (case k__law_pick => k_is)
    (case x__law_kinds => k_is)
    (case l__law_kinds => k_is)
    (case d__law_kinds => k_is)
    (case k__law_kinds => k_is)
    (case x__law_takes => k_is)
    (case l__law_takes => k_is)
    (case d__law_takes => k_is)
    (case k__law_takes => k_is)
    (case x__law_makes => k_is)
    (case l__law_makes => k_is)
    (case d__law_makes => k_is)
    (case k__law_makes => k_is)
    (case x__law_back => k_is)
    (case l__law_back => k_is)
    (case d__law_back => k_is)
    (case k__law_back => k_is)
    (case x__law_mirror => k_is)
    (case l__law_mirror => k_is)
    (case d__law_mirror => k_is)
    (case k__law_mirror => k_is)
    (case x__law_any_word => k_is)
    (case l__law_any_word => k_is)
    (case d__law_any_word => k_is)
    (case k__law_any_word => k_is)
    (case x__law_strange => k_is)
    (case l__law_strange => k_is)
    (case d__law_strange => k_is)
    (case k__law_strange => k_is)
    (case x__law_rows => k_is)
    (case l__law_rows => k_is)
    (case d__law_rows => k_is)
    (case k__law_rows => k_is)
    (case x_law => k_is)
    (case l_law => k_is)
    (case d_law => k_is)
    (case k_law => k_is)
end
