import PyProof.Rows.All
import Wide.All
import OpenK.AllK
import Wide.FinOn
import HandS.ForMost
import HandS.TupMul
import HandS.TupAny
import HandS.Style
import HandS.IsInst
import HandS.Zip
import HandS.Conv
import HandS.More
import HandS.Flow
import PySem.Challenge.RW_allstitches_k11_whole_families

section
set_option Elab.async false
set_option linter.all false
set_option autoImplicit false
set_option maxRecDepth 100000
/-! A data layer over the hand layer: values as plain data, environments as lists of slots, each def as a plain function. -/
namespace DL
open PySem PySem.Spec L2

/-- a value with all that hangs on it -/
inductive D where
  | non | bl (b : Bool) | int (i : Int) | str (x : Str)
  | tup (xs : List D) | lst (xs : List D)
  | dic (ks : List Key) (vs : List D)
  | dit (ks : List (List Key)) (vs : List D)
  | obj (c : Nat) (ks : List Str) (vs : List D)
  | drw | scr

/-- the classes' addresses, the script -/
structure Wd where
  cl : Nat → Addr
  ns : List Int

mutual
inductive Den (K : PySem.W.Frag) (W : Wd) (dr : Option Addr) (F : Hp) : V → D → Prop
  | non : Den K W dr F .non .non
  | bl (b : Bool) : Den K W dr F (.bl b) (.bl b)
  | int (i : Int) : Den K W dr F (.int i) (.int i)
  | str (x : Str) : Den K W dr F (.str x) (.str x)
  | tup {a : Addr} {vs : List V} {ds : List D} : SqT K F a vs → Dens K W dr F vs ds → Den K W dr F (.ref a) (.tup ds)
  | lst {a : Addr} {vs : List V} {ds : List D} : F a = some (.lst vs) → Dens K W dr F vs ds → Den K W dr F (.ref a) (.lst ds)
  | scr {a : Addr} : SqL K F a (W.ns.map V.int) → Den K W dr F (.ref a) .scr
  | dic {a : Addr} {ks : List Key} {vs : List V} {ds : List D} : ks.length = vs.length → Rd F a (.dK (ks.zip vs)) → Dens K W dr F vs ds → Den K W dr F (.ref a) (.dic ks ds)
  | dit {a : Addr} {ks : List (List Key)} {vs : List V} {ds : List D} : ks.length = vs.length → Rd F a (.dT (ks.zip vs)) → Dens K W dr F vs ds → Den K W dr F (.ref a) (.dit ks ds)
  | obj {a dx : Addr} {c : Nat} {ks : List Str} {vs : List V} {ds : List D} : ks.length = vs.length → F a = some (.ins (W.cl c) dx (ks.zip vs)) → Dens K W dr F vs ds → Den K W dr F (.ref a) (.obj c ks ds)
  | drw {a : Addr} : dr = some a → Den K W dr F (.ref a) .drw
inductive Dens (K : PySem.W.Frag) (W : Wd) (dr : Option Addr) (F : Hp) : List V → List D → Prop
  | nil : Dens K W dr F [] []
  | cons {v : V} {vs : List V} {d : D} {ds : List D} : Den K W dr F v d → Dens K W dr F vs ds → Dens K W dr F (v :: vs) (d :: ds)
end

/-- F is part of H -/
def Sub (F H : Hp) : Prop := ∀ a o, F a = some o → H a = some o
theorem Sub.refl (F : Hp) : Sub F F := fun _ _ h => h
theorem Sub.trans {F G H : Hp} (a : Sub F G) (b : Sub G H) : Sub F H := fun x o h => b x o (a x o h)
theorem Sub.rd {F G : Hp} (s : Sub F G) {a : Addr} {u : HO} (h : Rd F a u) : Rd G a u := by
  rcases h with h | ⟨o, h⟩
  · exact .inl (s _ _ h)
  · exact .inr ⟨o, s _ _ h⟩
theorem Sub.sqL {K : PySem.W.Frag} {F G : Hp} (s : Sub F G) {a : Addr} {xs : List V} (h : SqL K F a xs) : SqL K G a xs := h.imp s.rd id
theorem Sub.sqT {K : PySem.W.Frag} {F G : Hp} (s : Sub F G) {a : Addr} {xs : List V} (h : SqT K F a xs) : SqT K G a xs := h.imp s.rd id
theorem Sub.new {F H : Hp} (s : Sub F H) {p : Addr} {o : HO} (hp : H p = none) : Sub F (upd F p o) := fun a u h => by
  have hF : F p = none := by
    cases e : F p with
    | none => rfl
    | some z => rw [s _ _ e] at hp; cases hp
  rw [upd_ne (ne_of_none h hF)]
  exact h

section
variable {K : PySem.W.Frag} {W : Wd} {dr dr' : Option Addr} {F G : Hp}
mutual
theorem Den.mono (s : Sub F G) (e : ∀ a, dr = some a → dr' = some a) : ∀ {v : V} {d : D}, Den K W dr F v d → Den K W dr' G v d
  | _, _, .non => .non
  | _, _, .bl b => .bl b
  | _, _, .int i => .int i
  | _, _, .str x => .str x
  | _, _, .tup h r => .tup (s.sqT h) (Dens.mono s e r)
  | _, _, .lst h r => .lst (s _ _ h) (Dens.mono s e r)
  | _, _, .scr h => .scr (s.sqL h)
  | _, _, .dic l h r => .dic l (s.rd h) (Dens.mono s e r)
  | _, _, .dit l h r => .dit l (s.rd h) (Dens.mono s e r)
  | _, _, .obj l h r => .obj l (s _ _ h) (Dens.mono s e r)
  | _, _, .drw h => .drw (e _ h)
theorem Dens.mono (s : Sub F G) (e : ∀ a, dr = some a → dr' = some a) : ∀ {vs : List V} {ds : List D}, Dens K W dr F vs ds → Dens K W dr' G vs ds
  | _, _, .nil => .nil
  | _, _, .cons h r => .cons (Den.mono s e h) (Dens.mono s e r)
end
theorem Dens.length : ∀ {vs : List V} {ds : List D}, Dens K W dr F vs ds → vs.length = ds.length
  | _, _, .nil => rfl
  | _, _, .cons _ r => by simp [Dens.length r]
theorem Dens.get : ∀ {vs : List V} {ds : List D} {i : Nat} {d : D}, Dens K W dr F vs ds → ds[i]? = some d → ∃ v, vs[i]? = some v ∧ Den K W dr F v d
  | _, _, _, _, .nil, e => by simp at e
  | _, _, 0, _, .cons h _, e => by simp at e; subst e; exact ⟨_, rfl, h⟩
  | _, _, i + 1, _, .cons _ r, e => by
    obtain ⟨v, h1, h2⟩ := Dens.get (i := i) r (by simpa using e)
    exact ⟨v, by simpa using h1, h2⟩
theorem Dens.get' : ∀ {vs : List V} {ds : List D} {i : Nat} {v : V}, Dens K W dr F vs ds → vs[i]? = some v → ∃ d, ds[i]? = some d ∧ Den K W dr F v d
  | _, _, _, _, .nil, e => by simp at e
  | _, _, 0, _, .cons h _, e => by simp at e; subst e; exact ⟨_, rfl, h⟩
  | _, _, i + 1, _, .cons _ r, e => by
    obtain ⟨v, h1, h2⟩ := Dens.get' (i := i) r (by simpa using e)
    exact ⟨v, by simpa using h1, h2⟩
theorem Dens.append : ∀ {vs us : List V} {ds es : List D}, Dens K W dr F vs ds → Dens K W dr F us es → Dens K W dr F (vs ++ us) (ds ++ es)
  | _, _, _, _, .nil, s => s
  | _, _, _, _, .cons h r, s => .cons h (Dens.append r s)
theorem Dens.take : ∀ {vs : List V} {ds : List D} (n : Nat), Dens K W dr F vs ds → Dens K W dr F (vs.take n) (ds.take n)
  | _, _, 0, _ => .nil
  | _, _, _ + 1, .nil => .nil
  | _, _, n + 1, .cons h r => .cons h (Dens.take n r)
theorem Dens.drop : ∀ {vs : List V} {ds : List D} (n : Nat), Dens K W dr F vs ds → Dens K W dr F (vs.drop n) (ds.drop n)
  | _, _, 0, r => r
  | _, _, _ + 1, .nil => .nil
  | _, _, n + 1, .cons _ r => Dens.drop n r
theorem Dens.rep {vs : List V} {ds : List D} (h : Dens K W dr F vs ds) : ∀ k : Nat, Dens K W dr F (List.replicate k vs).flatten (List.replicate k ds).flatten
  | 0 => .nil
  | k + 1 => by
    rw [List.replicate_succ, List.replicate_succ, List.flatten_cons, List.flatten_cons]
    exact h.append (Dens.rep h k)
theorem Dens.reverse {vs : List V} {ds : List D} (h : Dens K W dr F vs ds) : Dens K W dr F vs.reverse ds.reverse := by
  induction vs generalizing ds with
  | nil => cases h; exact .nil
  | cons v vs ih =>
    cases h with
    | cons h r =>
      rw [List.reverse_cons, List.reverse_cons]
      exact (ih r).append (.cons h .nil)
theorem Dens.set : ∀ {vs : List V} {ds : List D} {v : V} {d : D} (i : Nat), Dens K W dr F vs ds → Den K W dr F v d → Dens K W dr F (vs.set i v) (ds.set i d)
  | _, _, _, _, _, .nil, _ => .nil
  | _, _, _, _, 0, .cons _ r, h => .cons h r
  | _, _, _, _, i + 1, .cons q r, h => .cons q (Dens.set i r h)
end

/-! ### computations -/
/-- what is raised: its class, its fields -/
structure Xc where
  c : Nat
  ks : List Str
  vs : List D
abbrev M (α : Type) := Int → Option (Except Xc α × Int)
def M.pure {α : Type} (a : α) : M α := fun n => some (.ok a, n)
def M.bind {α β : Type} (a : M α) (k : α → M β) : M β := fun n => match a n with
  | none => none
  | some (.ok x, n1) => k x n1
  | some (.error e, n1) => some (.error e, n1)
def M.opt {α : Type} (o : Option α) : M α := fun n => match o with
  | none => none
  | some a => some (.ok a, n)
def M.map {α β : Type} (f : α → β) (a : M α) : M β := M.bind a fun x => M.pure (f x)
theorem M.bind_ok {α β : Type} {a : M α} {k : α → M β} {n n2 : Int} {y : β} (h : M.bind a k n = some (.ok y, n2)) : ∃ x n1, a n = some (.ok x, n1) ∧ k x n1 = some (.ok y, n2) := by
  unfold M.bind at h
  split at h
  · cases h
  · exact ⟨_, _, ‹_›, h⟩
  · cases h
theorem M.opt_ok {α : Type} {o : Option α} {n n1 : Int} {x : α} (h : M.opt o n = some (.ok x, n1)) : o = some x ∧ n1 = n := by
  unfold M.opt at h
  split at h
  · cases h
  · cases h; exact ⟨rfl, rfl⟩
theorem M.pure_ok {α : Type} {a : α} {n n1 : Int} {x : α} (h : M.pure a n = some (.ok x, n1)) : a = x ∧ n1 = n := by
  unfold M.pure at h; cases h; exact ⟨rfl, rfl⟩
theorem M.bind_pure {α β : Type} (a : α) (k : α → M β) : M.bind (M.pure a) k = k a := rfl
theorem M.bind_of {α β : Type} {a : M α} {k : α → M β} {n n1 : Int} {x : α} (h : a n = some (.ok x, n1)) : M.bind a k n = k x n1 := by
  unfold M.bind; rw [h]

inductive Sl where
  | no | val (d : D) | own (d : D)
abbrev Env := List Sl
inductive Out where
  | nx (ρ : Env) | bk (ρ : Env) | ct (ρ : Env) | ret (d : D)
abbrev EX := Env → M D
abbrev EXs := Env → M (List D)
abbrev TX := Env → M Bool
abbrev SX := Env → M Out

/-! ### what a state means -/
/-- a def's run: the draw's cell, the script's address, the heap and the known part at the entry, what may be changed besides -/
structure Fr where
  dr : Option Addr
  sa : Addr
  H0 : Hp
  F0 : Hp
  ex : Addr → Prop

/-- what may be changed, at a -/
def MDen (K : PySem.W.Frag) (W : Wd) (dr : Option Addr) (F H : Hp) (a : Addr) : D → Prop
  | .lst ds => ∃ vs, H a = some (.lst vs) ∧ Dens K W dr F vs ds
  | .dic ks ds => ∃ vs, ks.length = vs.length ∧ H a = some (.dK (ks.zip vs)) ∧ Dens K W dr F vs ds
  | .dit ks ds => ∃ vs, ks.length = vs.length ∧ H a = some (.dT (ks.zip vs)) ∧ Dens K W dr F vs ds
  | .obj c ks ds => ∃ dx vs, ks.length = vs.length ∧ H a = some (.ins (W.cl c) dx (ks.zip vs)) ∧ Dens K W dr F vs ds
  | _ => False
theorem MDen.mono {K : PySem.W.Frag} {W : Wd} {dr : Option Addr} {F F' H H' : Hp} {a : Addr} {d : D} (s : Sub F F') (h : ∀ o, H a = some o → H' a = some o) (m : MDen K W dr F H a d) : MDen K W dr F' H' a d := by
  cases d with
  | lst ds => obtain ⟨vs, e, r⟩ := m; exact ⟨vs, h _ e, r.mono s fun _ z => z⟩
  | dic ks ds => obtain ⟨vs, l, e, r⟩ := m; exact ⟨vs, l, h _ e, r.mono s fun _ z => z⟩
  | dit ks ds => obtain ⟨vs, l, e, r⟩ := m; exact ⟨vs, l, h _ e, r.mono s fun _ z => z⟩
  | obj c ks ds => obtain ⟨dx, vs, l, e, r⟩ := m; exact ⟨dx, vs, l, h _ e, r.mono s fun _ z => z⟩
  | non => exact m.elim
  | bl _ => exact m.elim
  | int _ => exact m.elim
  | str _ => exact m.elim
  | tup _ => exact m.elim
  | drw => exact m.elim
  | scr => exact m.elim
theorem MDen.there {K : PySem.W.Frag} {W : Wd} {dr : Option Addr} {F H : Hp} {a : Addr} {d : D} (m : MDen K W dr F H a d) : ∃ o, H a = some o := by
  cases d with
  | lst ds => obtain ⟨vs, e, r⟩ := m; exact ⟨_, e⟩
  | dic ks ds => obtain ⟨vs, l, e, r⟩ := m; exact ⟨_, e⟩
  | dit ks ds => obtain ⟨vs, l, e, r⟩ := m; exact ⟨_, e⟩
  | obj c ks ds => obtain ⟨dx, vs, l, e, r⟩ := m; exact ⟨_, e⟩
  | non => exact m.elim
  | bl _ => exact m.elim
  | int _ => exact m.elim
  | str _ => exact m.elim
  | tup _ => exact m.elim
  | drw => exact m.elim
  | scr => exact m.elim

structure Core (K : PySem.W.Frag) (W : Wd) (fr : Fr) (F H : Hp) (n : Int) : Prop where
  sub : Sub F H
  base : ∀ a o, fr.H0 a = some o → fr.dr ≠ some a → ¬ fr.ex a → H a = some o
  f0 : Sub fr.F0 F
  new : ∀ a o, fr.H0 a = some o → fr.F0 a = none → F a = none
  there : ∀ a o, fr.H0 a = some o → ∃ o', H a = some o'
  draw : ∀ a, fr.dr = some a → F a = none ∧ H a = some (.lst [.ref fr.sa, .int n]) ∧ SqL K F fr.sa (W.ns.map V.int)

/-- an instance -/
def isO : D → Bool | .obj _ _ _ => true | _ => false
structure Slots (K : PySem.W.Frag) (W : Wd) (fr : Fr) (F H : Hp) (σ : St) (ρ : Env) (ad : Nat → Addr) : Prop where
  len : σ.length = ρ.length
  val : ∀ (i : Nat) (d : D), ρ[i]? = some (Sl.val d) → ∃ v, σ[i]? = some (some v) ∧ Den K W fr.dr F v d
  own : ∀ (i : Nat) (d : D), ρ[i]? = some (Sl.own d) → σ[i]? = some (some (.ref (ad i))) ∧ F (ad i) = none ∧ fr.dr ≠ some (ad i) ∧ (fr.H0 (ad i) = none ∨ fr.ex (ad i)) ∧ MDen K W fr.dr F H (ad i) d ∧ ((isO d = true ∧ fr.ex (ad i)) ∨ (isO d = false ∧ fr.H0 (ad i) = none))
  inj : ∀ (i j : Nat) (d e : D), ρ[i]? = some (Sl.own d) → ρ[j]? = some (Sl.own e) → ad i = ad j → i = j

structure Rel (K : PySem.W.Frag) (W : Wd) (fr : Fr) (F H : Hp) (σ : St) (ρ : Env) (n : Int) : Prop where
  core : Core K W fr F H n
  slots : ∃ ad, Slots K W fr F H σ ρ ad

section
variable {K : PySem.W.Frag} {W : Wd} {fr : Fr} {F F' H H' : Hp} {σ σ' : St} {ρ ρ' : Env} {n n' : Int}
theorem Core.noF (c : Core K W fr F H n) {p : Addr} (hp : H p = none) : F p = none := by
  cases e : F p with
  | none => rfl
  | some z => rw [c.sub _ _ e] at hp; cases hp
theorem Core.ndr (c : Core K W fr F H n) {p : Addr} (hp : H p = none) : fr.dr ≠ some p := fun e => by
  rw [(c.draw p e).2.1] at hp; cases hp
theorem Core.noH0 (c : Core K W fr F H n) {p : Addr} (hp : H p = none) : fr.H0 p = none := by
  cases e : fr.H0 p with
  | none => rfl
  | some z => obtain ⟨o, h⟩ := c.there _ _ e; rw [h] at hp; cases hp
/-- a new object, known from now on (k) or not -/
theorem Core.fresh (c : Core K W fr F H n) {p : Addr} {o : HO} (hp : H p = none) : Core K W fr (upd F p o) (upd H p o) n where
  sub := fun a u h => by
    by_cases e : a = p
    · subst e; rw [upd_same] at h ⊢; exact h
    · rw [upd_ne e] at h ⊢; exact c.sub _ _ h
  base := fun a u h1 h2 h3 => by
    have h := c.base a u h1 h2 h3
    rw [upd_ne (ne_of_none h hp)]; exact h
  f0 := c.f0.trans (c.sub.new hp)
  new := fun a u h1 h2 => by
    have e : a ≠ p := ne_of_none h1 (c.noH0 hp)
    rw [upd_ne e]; exact c.new a u h1 h2
  there := fun a u h => by
    obtain ⟨o', q⟩ := c.there a u h
    exact ⟨o', by rw [upd_ne (ne_of_none q hp)]; exact q⟩
  draw := fun a e => by
    obtain ⟨h1, h2, h3⟩ := c.draw a e
    have q : a ≠ p := ne_of_none h2 hp
    exact ⟨by rw [upd_ne q]; exact h1, by rw [upd_ne q]; exact h2, (c.sub.new hp).sqL h3⟩
/-- a new object, not known -/
theorem Core.fresh' (c : Core K W fr F H n) {p : Addr} {o : HO} (hp : H p = none) : Core K W fr F (upd H p o) n where
  sub := fun a u h => by
    have q := c.sub _ _ h
    rw [upd_ne (ne_of_none q hp)]; exact q
  base := fun a u h1 h2 h3 => by
    have h := c.base a u h1 h2 h3
    rw [upd_ne (ne_of_none h hp)]; exact h
  f0 := c.f0
  new := c.new
  there := fun a u h => by
    obtain ⟨o', q⟩ := c.there a u h
    exact ⟨o', by rw [upd_ne (ne_of_none q hp)]; exact q⟩
  draw := fun a e => by
    obtain ⟨h1, h2, h3⟩ := c.draw a e
    have q : a ≠ p := ne_of_none h2 hp
    exact ⟨h1, by rw [upd_ne q]; exact h2, h3⟩
/-- the run that begins where another one stands -/
def Fr.at (fr : Fr) (F H : Hp) : Fr := ⟨fr.dr, fr.sa, H, F, fun _ => False⟩
theorem Core.at (c : Core K W fr F H n) : Core K W (fr.at F H) F H n := ⟨c.sub, fun _ _ h _ _ => h, Sub.refl _, fun _ _ _ h => h, fun _ o h => ⟨o, h⟩, c.draw⟩
theorem Core.back (c : Core K W fr F H n) (d : Core K W (fr.at F H) F' H' n') : Core K W fr F' H' n' where
  sub := d.sub
  base := fun a o h1 h2 h3 => d.base a o (c.base a o h1 h2 h3) h2 fun z => z
  f0 := c.f0.trans d.f0
  new := fun a o h1 h2 => by
    obtain ⟨o', q⟩ := c.there a o h1
    exact d.new a o' q (c.new a o h1 h2)
  there := fun a o h => by
    obtain ⟨o', q⟩ := c.there a o h
    exact d.there a o' q
  draw := d.draw
/-- the slots stand while what they lean on stands -/
theorem Slots.keep {ad : Nat → Addr} (s : Slots K W fr F H σ ρ ad) (c : Core K W fr F H n) (f : Sub F F') (h : ∀ a o, H a = some o → fr.dr ≠ some a → H' a = some o) (g : ∀ a o, H a = some o → F a = none → F' a = none) : Slots K W fr F' H' σ ρ ad where
  len := s.len
  val := fun i d e => by
    obtain ⟨v, h1, h2⟩ := s.val i d e
    exact ⟨v, h1, h2.mono f fun _ z => z⟩
  own := fun i d e => by
    obtain ⟨h1, h2, h3, h4, h5, h6⟩ := s.own i d e
    obtain ⟨o, q⟩ := h5.there
    exact ⟨h1, g _ _ q h2, h3, h4, h5.mono f fun o z => h _ o z h3, h6⟩
  inj := s.inj
theorem Rel.keep (r : Rel K W fr F H σ ρ n) (c : Core K W fr F' H' n') (f : Sub F F') (h : ∀ a o, H a = some o → fr.dr ≠ some a → H' a = some o) (g : ∀ a o, H a = some o → F a = none → F' a = none) : Rel K W fr F' H' σ ρ n' := by
  obtain ⟨ad, s⟩ := r.slots
  exact ⟨c, ad, s.keep r.core f h g⟩
theorem Rel.fresh (r : Rel K W fr F H σ ρ n) {p : Addr} {o : HO} (hp : H p = none) : Rel K W fr (upd F p o) (upd H p o) σ ρ n :=
  r.keep (r.core.fresh hp) (r.core.sub.new hp) (fun a u h _ => by rw [upd_ne (ne_of_none h hp)]; exact h) fun a u h z => by rw [upd_ne (ne_of_none h hp)]; exact z
/-- behind a run that began here -/
theorem Rel.back (r : Rel K W fr F H σ ρ n) (d : Core K W (fr.at F H) F' H' n') : Rel K W fr F' H' σ ρ n' :=
  r.keep (r.core.back d) d.f0 (fun a o h z => d.base a o h z fun q => q) fun a o h z => d.new a o h z
end

/-! ### the judgements -/
def tD (K : PySem.W.Frag) (W : Wd) (f : EX) : TE := fun σ H Q => ∃ fr F ρ n d n', Rel K W fr F H σ ρ n ∧ f ρ n = some (.ok d, n') ∧
  ∀ F' H' v, Rel K W fr F' H' σ ρ n' → Sub F F' → Den K W fr.dr F' v d → Q v H'
def tDs (K : PySem.W.Frag) (W : Wd) (f : EXs) : TA := fun σ H Q => ∃ fr F ρ n ds n', Rel K W fr F H σ ρ n ∧ f ρ n = some (.ok ds, n') ∧
  ∀ F' H' vs, Rel K W fr F' H' σ ρ n' → Sub F F' → Dens K W fr.dr F' vs ds → Q vs H'
def tT (K : PySem.W.Frag) (W : Wd) (f : TX) : TT := fun σ H Q => ∃ fr F ρ n b n', Rel K W fr F H σ ρ n ∧ f ρ n = some (.ok b, n') ∧
  ∀ F' H', Rel K W fr F' H' σ ρ n' → Sub F F' → Q b H'
def OutK (K : PySem.W.Frag) (W : Wd) (fr : Fr) (F : Hp) (E : Ends) : Out → Int → Prop
  | .nx ρ, n => ∀ F' H' σ', Rel K W fr F' H' σ' ρ n → Sub F F' → E.nx σ' H'
  | .bk ρ, n => ∀ F' H' σ', Rel K W fr F' H' σ' ρ n → Sub F F' → E.bk σ' H'
  | .ct ρ, n => ∀ F' H' σ', Rel K W fr F' H' σ' ρ n → Sub F F' → E.ct σ' H'
  | .ret d, n => ∀ F' H' v, Core K W fr F' H' n → Sub F F' → Den K W fr.dr F' v d → E.rt v H'
def tS (K : PySem.W.Frag) (W : Wd) (g : SX) : TS := fun E σ H => ∃ fr F ρ n o n', Rel K W fr F H σ ρ n ∧ g ρ n = some (.ok o, n') ∧ OutK K W fr F E o n'
theorem OutK.mono {K : PySem.W.Frag} {W : Wd} {fr : Fr} {F F1 : Hp} {E : Ends} (s : Sub F F1) : ∀ {o : Out} {n : Int}, OutK K W fr F E o n → OutK K W fr F1 E o n
  | .nx _, _, k => fun F' H' σ' r q => k F' H' σ' r (s.trans q)
  | .bk _, _, k => fun F' H' σ' r q => k F' H' σ' r (s.trans q)
  | .ct _, _, k => fun F' H' σ' r q => k F' H' σ' r (s.trans q)
  | .ret _, _, k => fun F' H' v c q => k F' H' v c (s.trans q)

abbrev PD (X : Cx) (W : Wd) (e : Expr) (f : EX) : Prop := PE X e (tD X.K W f)
abbrev PDs (X : Cx) (W : Wd) (es : List Expr) (f : EXs) : Prop := PA X es (tDs X.K W f)
abbrev PDT (X : Cx) (W : Wd) (e : Expr) (f : TX) : Prop := PT X e (tT X.K W f)
abbrev PDW (X : Cx) (W : Wd) (e : Expr) (f : TX) : Prop := PW X e (tT X.K W f)
abbrev PDS (X : Cx) (W : Wd) (s : Stmt) (g : SX) : Prop := PS X s (tS X.K W g)
abbrev PDSs (X : Cx) (W : Wd) (s : List Stmt) (g : SX) : Prop := PSs X s (tS X.K W g)

theorem imp_E {X : Cx} {e : Expr} {t t' : TE} (h : PE X e t) (k : ∀ σ H Q, t' σ H Q → t σ H Q) : PE X e t' := ⟨fun pins s σ H Q I q => h.run pins s σ H Q I (k σ H Q q)⟩
theorem imp_T {X : Cx} {e : Expr} {t t' : TT} (h : PT X e t) (k : ∀ σ H Q, t' σ H Q → t σ H Q) : PT X e t' := ⟨fun pins s σ H Q I q => h.run pins s σ H Q I (k σ H Q q)⟩
theorem imp_W {X : Cx} {e : Expr} {t t' : TT} (h : PW X e t) (k : ∀ σ H Q, t' σ H Q → t σ H Q) : PW X e t' := ⟨fun w pins s σ H Q I q => h.run w pins s σ H Q I (k σ H Q q)⟩
theorem imp_A {X : Cx} {e : List Expr} {t t' : TA} (h : PA X e t) (k : ∀ σ H Q, t' σ H Q → t σ H Q) : PA X e t' := ⟨fun p pins s σ H Q I q => h.run p pins s σ H Q I (k σ H Q q)⟩
theorem imp_S {X : Cx} {e : Stmt} {t t' : TS} (h : PS X e t) (k : ∀ E σ H, t' E σ H → t E σ H) : PS X e t' := ⟨fun pins s σ H E I q => h.run pins s σ H E I (k E σ H q)⟩
theorem imp_Ss {X : Cx} {e : List Stmt} {t t' : TS} (h : PSs X e t) (k : ∀ E σ H, t' E σ H → t E σ H) : PSs X e t' := ⟨fun pins s σ H E I q => h.run pins s σ H E I (k E σ H q)⟩
end DL
end

section
set_option Elab.async false
set_option linter.all false
set_option autoImplicit false
set_option maxRecDepth 100000
namespace DL
open PySem PySem.Spec L2
section
variable {X : Cx} {W : Wd}

/-! ### names, constants -/
def eVar (i : Nat) : EX := fun ρ => M.opt (match ρ[i]? with | some (Sl.val d) => some d | _ => none)
theorem eVar_some {i : Nat} {ρ : Env} {n n1 : Int} {d : D} (h : eVar i ρ n = some (.ok d, n1)) : ρ[i]? = some (.val d) ∧ n1 = n := by
  unfold eVar at h
  obtain ⟨h1, h2⟩ := M.opt_ok h
  split at h1
  · cases h1; exact ⟨‹_›, h2⟩
  · cases h1
theorem d_var {e : Expr} {i : Nat} (h : PE X e (tVar i)) : PD X W e (eVar i) := imp_E h fun σ H Q ⟨fr, F, ρ, n, d, n', R, e, k⟩ => by
  obtain ⟨h1, h2⟩ := eVar_some e
  subst h2
  obtain ⟨ad, s⟩ := R.slots
  obtain ⟨v, h3, h4⟩ := s.val i d h1
  exact ⟨v, h3, k F H v R (Sub.refl _) h4⟩
theorem dv (i : Nat) {x : Str} {pos : Pos} (hN : X.N[i]? = some x := by rfl) (hv : Vis X.env.scope x := by first | exact Or.inl rfl | exact Or.inr (Or.inl rfl) | exact Or.inr (Or.inr rfl)) (hd : (x == ("__debug__" : Str)) = false := by decide)
    (hcd : (x == ("__classdict__" : Str)) = false := by decide) : PD X W (.Name x pos) (eVar i) := d_var (pe_var hN hv hd hcd)
def eC (d : D) : EX := fun _ => M.pure d
theorem d_con {e : Expr} {v : V} {d : D} (h : PE X e (tC v)) (hd : ∀ K W dr F, Den K W dr F v d) : PD X W e (eC d) := imp_E h fun σ H Q ⟨fr, F, ρ, n, d', n', R, e, k⟩ => by
  obtain ⟨h1, h2⟩ := M.pure_ok e
  subst h1 h2
  exact k F H v R (Sub.refl _) (hd _ _ _ _)
theorem d_int {i j pos} : PD X W (.Constant (.int i) j pos) (eC (.int i)) := d_con pe_int fun _ _ _ _ => .int i
theorem d_bl {i j pos} : PD X W (.Constant (.bool i) j pos) (eC (.bl i)) := d_con pe_bl fun _ _ _ _ => .bl i
theorem d_non {j pos} : PD X W (.Constant .none j pos) (eC .non) := d_con pe_non fun _ _ _ _ => .non
theorem d_str {x j pos} : PD X W (.Constant (.str x) j pos) (eC (.str x)) := d_con pe_str fun _ _ _ _ => .str x
/-- a module's constant that is an int, a text, a bool -/
theorem d_glob {x : Str} {v : V} {u : Value} {pos : Pos} {d : D} (hg : Gl X x) (hm : X.mg x = some u) (r : RelV v u) (hd : ∀ K W dr F, Den K W dr F v d) (hx : (x == ("__debug__" : Str)) = false := by decide) : PD X W (.Name x pos) (eC d) := d_con (pe_glob hg hm r hx) hd

/-! ### lists of expressions -/
def eNil : EXs := fun _ => M.pure []
def eCons (f : EX) (g : EXs) : EXs := fun ρ => M.bind (f ρ) fun d => M.bind (g ρ) fun ds => M.pure (d :: ds)
theorem ds_nil : PDs X W [] eNil := imp_A pa_nil fun σ H Q ⟨fr, F, ρ, n, d, n', R, e, k⟩ => by
  obtain ⟨h1, h2⟩ := M.pure_ok e
  subst h1 h2
  exact k F H [] R (Sub.refl _) .nil
theorem ds_cons {e : Expr} {es : List Expr} {f : EX} {g : EXs} (he : PD X W e f) (hr : PDs X W es g) (hs : starEach (e :: es) X.env = (false, eval e X.env) :: starEach es X.env := by rfl) : PDs X W (e :: es) (eCons f g) :=
  imp_A (pa_cons he hr hs) fun σ H Q ⟨fr, F, ρ, n, ds, n', R, e, k⟩ => by
    obtain ⟨d, n1, h1, h⟩ := M.bind_ok e
    obtain ⟨ds', n2, h2, h⟩ := M.bind_ok h
    obtain ⟨h3, h4⟩ := M.pure_ok h
    subst h3 h4
    exact ⟨fr, F, ρ, n, d, n1, R, h1, fun F1 H1 v R1 s1 d1 => ⟨fr, F1, ρ, n1, ds', _, R1, h2, fun F2 H2 vs R2 s2 d2 => k F2 H2 _ R2 (s1.trans s2) (.cons (d1.mono s2 fun _ z => z) d2)⟩⟩

/-! ### displays -/
theorem Core.freshTup {K : PySem.W.Frag} {fr : Fr} {F H : Hp} {n : Int} {vs : List V} {ds : List D} {p : Addr} (h : Dens K W fr.dr F vs ds) (hp : F p = none) : Den K W fr.dr (upd F p (.tup vs)) (.ref p) (.tup ds) :=
  .tup (SqT.of upd_same) (h.mono (fun a u q => by rw [upd_ne (ne_of_none q hp)]; exact q) fun _ z => z)
def gz (ds : List D) : Bool := decide (ds.length ≤ sizeLine)
def mkTup (ds : List D) : Option D := if gz ds then some (.tup ds) else none
def mkLst (ds : List D) : Option D := if gz ds then some (.lst ds) else none
theorem mkTup_ok {ds : List D} {d : D} (h : mkTup ds = some d) : d = .tup ds ∧ ds.length ≤ sizeLine := by
  unfold mkTup at h
  split at h
  · rename_i q; cases h; exact ⟨rfl, of_decide_eq_true q⟩
  · cases h
theorem mkLst_ok {ds : List D} {d : D} (h : mkLst ds = some d) : d = .lst ds ∧ ds.length ≤ sizeLine := by
  unfold mkLst at h
  split at h
  · rename_i q; cases h; exact ⟨rfl, of_decide_eq_true q⟩
  · cases h
def eTup (f : EXs) : EX := fun ρ => M.bind (f ρ) fun ds => M.opt (mkTup ds)
def eLst (f : EXs) : EX := fun ρ => M.bind (f ρ) fun ds => M.opt (mkLst ds)
/-- a new tuple, a new list, handed on as known -/
theorem put_tup {K : PySem.W.Frag} {fr : Fr} {F H : Hp} {σ : St} {ρ : Env} {n : Int} {vs : List V} {ds : List D} {Q : VK} (R : Rel K W fr F H σ ρ n) (hd : Dens K W fr.dr F vs ds)
    (k : ∀ F' H' v, Rel K W fr F' H' σ ρ n → Sub F F' → Den K W fr.dr F' v (.tup ds) → Q v H') : ∀ p, H p = none → Q (.ref p) (upd H p (.tup vs)) := fun p hp =>
  k _ _ _ (R.fresh hp) (R.core.sub.new hp) (.tup (SqT.of upd_same) (hd.mono (R.core.sub.new hp) fun _ z => z))
theorem put_lst {K : PySem.W.Frag} {fr : Fr} {F H : Hp} {σ : St} {ρ : Env} {n : Int} {vs : List V} {ds : List D} {Q : VK} (R : Rel K W fr F H σ ρ n) (hd : Dens K W fr.dr F vs ds)
    (k : ∀ F' H' v, Rel K W fr F' H' σ ρ n → Sub F F' → Den K W fr.dr F' v (.lst ds) → Q v H') : ∀ p, H p = none → Q (.ref p) (upd H p (.lst vs)) := fun p hp =>
  k _ _ _ (R.fresh hp) (R.core.sub.new hp) (.lst upd_same (hd.mono (R.core.sub.new hp) fun _ z => z))
theorem d_tup {es : List Expr} {f : EXs} {x1 pos} (h : PDs X W es f) : PD X W (.Tuple es x1 pos) (eTup f) := imp_E (pe_tup h) fun σ H Q ⟨fr, F, ρ, n, d, n', R, e, k⟩ => by
  obtain ⟨ds, n1, h1, h⟩ := M.bind_ok e
  obtain ⟨h2, h3⟩ := M.opt_ok h
  obtain ⟨h4, h5⟩ := mkTup_ok h2
  subst h3 h4
  exact ⟨fr, F, ρ, n, ds, _, R, h1, fun F1 H1 vs R1 s1 d1 => ⟨by rw [d1.length]; exact h5, put_tup R1 d1 fun F2 H2 v R2 s2 d2 => k F2 H2 v R2 (s1.trans s2) d2⟩⟩
theorem d_lst {es : List Expr} {f : EXs} {pos} (h : PDs X W es f) : PD X W (.List es pos) (eLst f) := imp_E (pe_lst h) fun σ H Q ⟨fr, F, ρ, n, d, n', R, e, k⟩ => by
  obtain ⟨ds, n1, h1, h⟩ := M.bind_ok e
  obtain ⟨h2, h3⟩ := M.opt_ok h
  obtain ⟨h4, h5⟩ := mkLst_ok h2
  subst h3 h4
  exact ⟨fr, F, ρ, n, ds, _, R, h1, fun F1 H1 vs R1 s1 d1 => ⟨by rw [d1.length]; exact h5, put_lst R1 d1 fun F2 H2 v R2 s2 d2 => k F2 H2 v R2 (s1.trans s2) d2⟩⟩

/-! ### operators -/
def e2 (op : D → D → Option D) (fa fb : EX) : EX := fun ρ => M.bind (fa ρ) fun x => M.bind (fb ρ) fun y => M.opt (op x y)
/-- an operator over data -/
def Op2 (K : PySem.W.Frag) (W : Wd) (r : R2) (op : D → D → Option D) : Prop := ∀ (fr : Fr) (F H : Hp) (σ : St) (ρ : Env) (n : Int) (x y d : D) (v u : V) (Q : VK), Rel K W fr F H σ ρ n → Den K W fr.dr F v x → Den K W fr.dr F u y → op x y = some d →
  (∀ F' H' w, Rel K W fr F' H' σ ρ n → Sub F F' → Den K W fr.dr F' w d → Q w H') → r v u H Q
theorem d_tOp {K : PySem.W.Frag} {r : R2} {op : D → D → Option D} {fa fb : EX} (hd : Op2 K W r op) {σ : St} {H : Hp} {Q : VK} (h : tD K W (e2 op fa fb) σ H Q) : tOp r (tD K W fa) (tD K W fb) σ H Q := by
  obtain ⟨fr, F, ρ, n, d, n', R, e, k⟩ := h
  obtain ⟨x, n1, h1, h⟩ := M.bind_ok e
  obtain ⟨y, n2, h2, h⟩ := M.bind_ok h
  obtain ⟨h3, h4⟩ := M.opt_ok h
  subst h4
  exact ⟨fr, F, ρ, n, x, n1, R, h1, fun F1 H1 v R1 s1 d1 => ⟨fr, F1, ρ, n1, y, _, R1, h2, fun F2 H2 u R2 s2 d2 => hd fr F2 H2 σ ρ _ x y d v u Q R2 (d1.mono s2 fun _ z => z) d2 h3 fun F3 H3 w R3 s3 d3 => k F3 H3 w R3 ((s1.trans s2).trans s3) d3⟩⟩
theorem d_op {a b : Expr} {fa fb : EX} {o : Operator} {r : R2} {op : D → D → Option D} {pos : Pos} (ho : OpR X (binaryOp o) r) (hd : Op2 X.K W r op) (ha : PD X W a fa) (hb : PD X W b fb) : PD X W (.BinOp a o b pos) (e2 op fa fb) := imp_E (pe_op ho ha hb) fun _ _ _ h => d_tOp hd h
theorem d_cmp {a b : Expr} {fa fb : EX} {o : CmpOp} {r : R2} {op : D → D → Option D} {pos : Pos} (ho : OpR X (compareOp o) r) (hd : Op2 X.K W r op) (ha : PD X W a fa) (hb : PD X W b fb) (hm : behindInMarks o b = false) : PD X W (.Compare a [o] [b] pos) (e2 op fa fb) := imp_E (pe_cmpR ho ha hb hm) fun _ _ _ h => d_tOp hd h

def dAdd : D → D → Option D
  | .int a, .int b => some (.int (a + b))
  | .str a, .str b => if a.length + b.length ≤ sizeLine then some (.str (a ++ b)) else none
  | .tup a, .tup b => mkTup (a ++ b)
  | .lst a, .lst b => mkLst (a ++ b)
  | _, _ => none
theorem dens_nil {K : PySem.W.Frag} {dr : Option Addr} {F : Hp} {vs : List V} (h : Dens K W dr F vs []) : vs = [] := by cases h; rfl
theorem dens_ne {K : PySem.W.Frag} {dr : Option Addr} {F : Hp} {vs : List V} {ds : List D} (h : Dens K W dr F vs ds) : vs = [] ↔ ds = [] := by
  cases h <;> simp
abbrev rAddD (K : PySem.W.Frag) : R2 := fun x y H Q => (((rI0 fun i j => .int (i + j)) x y H Q ∨ (∃ i j, x = .str i ∧ y = .str j ∧ i.length + j.length ≤ sizeLine ∧ Q (.str (i ++ j)) H)) ∨ rCatA K x y H Q) ∨ rCat x y H Q
theorem o_add : OpR X (binaryOp .Add) (rAddD X.K) := ((op_add.or op_add_str).or op_catA).or op_cat
theorem q_add {K : PySem.W.Frag} : Op2 K W (rAddD K) dAdd := by
  intro fr F H σ ρ n x y d v u Q R dx dy h k
  unfold dAdd at h
  split at h
  · cases dx; cases dy; cases h
    exact .inl (.inl (.inl ⟨_, _, rfl, rfl, k F H _ R (Sub.refl _) (.int _)⟩))
  · split at h
    · cases dx; cases dy; cases h
      exact .inl (.inl (.inr ⟨_, _, rfl, rfl, ‹_›, k F H _ R (Sub.refl _) (.str _)⟩))
    · cases h
  · obtain ⟨rfl, hz⟩ := mkTup_ok h
    cases dx with
    | tup hx rx =>
      cases dy with
      | tup hy ry =>
        refine .inl (.inr ⟨_, _, _, _, rfl, rfl, R.core.sub.sqT hx, R.core.sub.sqT hy, by rw [rx.length, ry.length, ← List.length_append]; exact hz, fun e => ?_, fun e1 e2 => ?_, fun e1 e2 => ?_⟩)
        · rw [(dens_ne rx).mp e, List.nil_append] at k
          exact k F H _ R (Sub.refl _) (.tup hy ry)
        · rw [(dens_ne ry).mp e2, List.append_nil] at k
          exact k F H _ R (Sub.refl _) (.tup hx rx)
        · exact put_tup R (rx.append ry) k
  · obtain ⟨rfl, hz⟩ := mkLst_ok h
    cases dx with
    | lst hx rx =>
      cases dy with
      | lst hy ry =>
        exact .inr ⟨_, _, _, _, rfl, rfl, R.core.sub _ _ hx, R.core.sub _ _ hy, by rw [rx.length, ry.length, ← List.length_append]; exact hz, put_lst R (rx.append ry) k⟩
  · cases h
theorem d_add {a b : Expr} {fa fb : EX} {pos : Pos} (ha : PD X W a fa) (hb : PD X W b fb) : PD X W (.BinOp a .Add b pos) (e2 dAdd fa fb) := d_op o_add q_add ha hb

/-- an operator of ints -/
def dI (C : Int → Int → Bool) (g : Int → Int → D) : D → D → Option D
  | .int a, .int b => if C a b then some (g a b) else none
  | _, _ => none
theorem q_I {K : PySem.W.Frag} {C : Int → Int → Prop} {D' : Int → Int → Bool} {g : Int → Int → V} {gd : Int → Int → D} (hC : ∀ i j, D' i j = true → C i j) (hg : ∀ K W dr F i j, Den K W dr F (g i j) (gd i j)) : Op2 K W (rI C g) (dI D' gd) := by
  intro fr F H σ ρ n x y d v u Q R dx dy h k
  unfold dI at h
  split at h
  · split at h
    · cases dx; cases dy; cases h
      exact ⟨_, _, rfl, rfl, hC _ _ ‹_›, k F H _ R (Sub.refl _) (hg _ _ _ _ _ _)⟩
    · cases h
  · cases h
theorem q_I0 {K : PySem.W.Frag} {g : Int → Int → V} {gd : Int → Int → D} (hg : ∀ K W dr F i j, Den K W dr F (g i j) (gd i j)) : Op2 K W (rI0 g) (dI (fun _ _ => true) gd) := by
  intro fr F H σ ρ n x y d v u Q R dx dy h k
  unfold dI at h
  split at h
  · cases dx; cases dy; cases h
    exact ⟨_, _, rfl, rfl, k F H _ R (Sub.refl _) (hg _ _ _ _ _ _)⟩
  · cases h
def dSub : D → D → Option D := dI (fun _ _ => true) fun i j => .int (i - j)
def small64 (i : Int) : Bool := decide (-(2 ^ 64) < i) && decide (i < 2 ^ 64)
def dMulI : D → D → Option D := dI (fun i j => small64 i || small64 j) fun i j => .int (i * j)
def dMod : D → D → Option D := dI (fun _ j => decide (0 < j)) fun i j => .int (i % j)
def dDiv : D → D → Option D := dI (fun _ j => decide (0 < j) && decide (j < 1073741824)) fun i j => .int (i / j)
def dPow : D → D → Option D := dI (fun i j => decide (0 ≤ j) && decide (j ≤ 1000000) && decide (i.natAbs < 2 ^ 64)) fun i j => .int (i ^ j.toNat)
theorem d_sub {a b : Expr} {fa fb : EX} {pos : Pos} (ha : PD X W a fa) (hb : PD X W b fb) : PD X W (.BinOp a .Sub b pos) (e2 dSub fa fb) := d_op op_sub (q_I0 fun _ _ _ _ _ _ => .int _) ha hb
theorem small64_ok {i : Int} (h : small64 i = true) : -(2 ^ 64) < i ∧ i < 2 ^ 64 := by
  unfold small64 at h
  simp only [Bool.and_eq_true, decide_eq_true_eq] at h
  exact h
theorem d_mulI {a b : Expr} {fa fb : EX} {pos : Pos} (ha : PD X W a fa) (hb : PD X W b fb) : PD X W (.BinOp a .Mult b pos) (e2 dMulI fa fb) := d_op op_mul (q_I (fun i j h => by
  rw [Bool.or_eq_true] at h
  exact h.imp small64_ok small64_ok) fun _ _ _ _ _ _ => .int _) ha hb
theorem d_mod {a b : Expr} {fa fb : EX} {pos : Pos} (ha : PD X W a fa) (hb : PD X W b fb) : PD X W (.BinOp a .Mod b pos) (e2 dMod fa fb) := d_op op_mod (q_I (fun i j h => of_decide_eq_true h) fun _ _ _ _ _ _ => .int _) ha hb
theorem d_div {a b : Expr} {fa fb : EX} {pos : Pos} (ha : PD X W a fa) (hb : PD X W b fb) : PD X W (.BinOp a .FloorDiv b pos) (e2 dDiv fa fb) := d_op op_fdiv (q_I (fun i j h => by
  simp only [Bool.and_eq_true, decide_eq_true_eq] at h
  exact h) fun _ _ _ _ _ _ => .int _) ha hb
theorem d_pow {a b : Expr} {fa fb : EX} {pos : Pos} (ha : PD X W a fa) (hb : PD X W b fb) : PD X W (.BinOp a .Pow b pos) (e2 dPow fa fb) := d_op op_pow (q_I (fun i j h => by
  simp only [Bool.and_eq_true, decide_eq_true_eq] at h
  exact ⟨h.1.1, h.1.2, h.2⟩) fun _ _ _ _ _ _ => .int _) ha hb

/-! ### comparisons -/
def strLt (a b : Str) : Bool := decide (a.cps.toList < b.cps.toList)
def strLe (a b : Str) : Bool := !decide (b.cps.toList < a.cps.toList)
def dLt : D → D → Option D
  | .int a, .int b => some (.bl (decide (a < b)))
  | .str a, .str b => some (.bl (strLt a b))
  | _, _ => none
theorem d_lt {a b : Expr} {fa fb : EX} {pos : Pos} (ha : PD X W a fa) (hb : PD X W b fb) : PD X W (.Compare a [.Lt] [b] pos) (e2 dLt fa fb) := d_cmp (op_lt.or op_lt_str) (by
  intro fr F H σ ρ n x y d v u Q R dx dy h k
  unfold dLt at h
  split at h
  · cases dx; cases dy; cases h
    exact .inl ⟨_, _, rfl, rfl, k F H _ R (Sub.refl _) (.bl _)⟩
  · cases dx; cases dy; cases h
    exact .inr ⟨_, _, rfl, rfl, k F H _ R (Sub.refl _) (.bl _)⟩
  · cases h) ha hb (nomark _)
def dCI (p : Int → Int → Bool) : D → D → Option D := dI (fun _ _ => true) fun i j => .bl (p i j)
abbrev dLe := dCI fun i j => decide (i ≤ j)
abbrev dGt := dCI fun i j => decide (j < i)
abbrev dGe := dCI fun i j => decide (j ≤ i)
theorem d_le {a b : Expr} {fa fb : EX} {pos : Pos} (ha : PD X W a fa) (hb : PD X W b fb) : PD X W (.Compare a [.LtE] [b] pos) (e2 dLe fa fb) := d_cmp op_le (q_I0 fun _ _ _ _ _ _ => .bl _) ha hb (nomark _)
theorem d_gt {a b : Expr} {fa fb : EX} {pos : Pos} (ha : PD X W a fa) (hb : PD X W b fb) : PD X W (.Compare a [.Gt] [b] pos) (e2 dGt fa fb) := d_cmp op_gt (q_I0 fun _ _ _ _ _ _ => .bl _) ha hb (nomark _)
theorem d_ge {a b : Expr} {fa fb : EX} {pos : Pos} (ha : PD X W a fa) (hb : PD X W b fb) : PD X W (.Compare a [.GtE] [b] pos) (e2 dGe fa fb) := d_cmp op_ge (q_I0 fun _ _ _ _ _ _ => .bl _) ha hb (nomark _)

mutual
def toPy : D → Option PyData
  | .non => some .none
  | .bl b => some (.bool b)
  | .int i => some (.int i)
  | .str x => some (.str x)
  | .tup xs => match toPys xs with | some ys => some (.tuple ys) | none => none
  | .lst xs => match toPys xs with | some ys => some (.list ys) | none => none
  | _ => none
def toPys : List D → Option (List PyData)
  | [] => some []
  | x :: xs => match toPy x, toPys xs with | some y, some ys => some (y :: ys) | _, _ => none
end
mutual
theorem dp_of {K : PySem.W.Frag} {dr : Option Addr} {F H : Hp} (s : Sub F H) : ∀ {v : V} {d : D} {p : PyData}, Den K W dr F v d → toPy d = some p → Dp K H v p
  | _, _, _, .non, h => by unfold toPy at h; cases h; exact .non
  | _, _, _, .bl b, h => by unfold toPy at h; cases h; exact .bl b
  | _, _, _, .int b, h => by unfold toPy at h; cases h; exact .int b
  | _, _, _, .str b, h => by unfold toPy at h; cases h; exact .str b
  | _, _, _, .tup h1 h2, h => by
    unfold toPy at h
    split at h
    · cases h; exact .tup (s.sqT h1) (dps_of s h2 ‹_›)
    · cases h
  | _, _, _, .lst h1 h2, h => by
    unfold toPy at h
    split at h
    · cases h; exact .lst (SqL.of (s _ _ h1)) (dps_of s h2 ‹_›)
    · cases h
  | _, _, _, .scr _, h => by simp [toPy] at h
  | _, _, _, .dic _ _ _, h => by simp [toPy] at h
  | _, _, _, .dit _ _ _, h => by simp [toPy] at h
  | _, _, _, .obj _ _ _, h => by simp [toPy] at h
  | _, _, _, .drw _, h => by simp [toPy] at h
theorem dps_of {K : PySem.W.Frag} {dr : Option Addr} {F H : Hp} (s : Sub F H) : ∀ {vs : List V} {ds : List D} {ps : List PyData}, Dens K W dr F vs ds → toPys ds = some ps → DpAll K H vs ps
  | _, _, _, .nil, h => by unfold toPys at h; cases h; exact .nil
  | _, _, _, .cons h1 h2, h => by
    unfold toPys at h
    split at h
    · cases h; exact .cons (dp_of s h1 ‹_›) (dps_of s h2 ‹_›)
    · cases h
end
def dEqB (x y : D) : Option Bool := match toPy x, toPy y with
  | some a, some b => if SeqAt.shaped a && SeqAt.shaped b then some (PyData.eqv a b) else none
  | _, _ => none
def dEq (x y : D) : Option D := match dEqB x y with | some b => some (.bl b) | none => none
def dNe (x y : D) : Option D := match dEqB x y with | some b => some (.bl (!b)) | none => none
theorem dEqB_ok {x y : D} {b : Bool} (h : dEqB x y = some b) : ∃ p q, toPy x = some p ∧ toPy y = some q ∧ SeqAt.shaped p = true ∧ SeqAt.shaped q = true ∧ b = PyData.eqv p q := by
  unfold dEqB at h
  split at h
  · split at h
    · rename_i a b h1 h2 hs
      rw [Bool.and_eq_true] at hs
      cases h
      exact ⟨_, _, h1, h2, hs.1, hs.2, rfl⟩
    · cases h
  · cases h
theorem d_eq {a b : Expr} {fa fb : EX} {pos : Pos} (hu : X.A.units + 64 < cLine) (ha : PD X W a fa) (hb : PD X W b fb) : PD X W (.Compare a [.Eq] [b] pos) (e2 dEq fa fb) := d_cmp (op_eqD hu) (by
  intro fr F H σ ρ n x y d v u Q R dx dy h k
  unfold dEq at h
  split at h
  · cases h
    obtain ⟨p, q, h1, h2, h3, h4, rfl⟩ := dEqB_ok ‹_›
    exact ⟨p, q, dp_of R.core.sub dx h1, dp_of R.core.sub dy h2, h3, h4, k F H _ R (Sub.refl _) (.bl _)⟩
  · cases h) ha hb (nomark _)
theorem d_ne {a b : Expr} {fa fb : EX} {pos : Pos} (hu : X.A.units + 64 < cLine) (ha : PD X W a fa) (hb : PD X W b fb) : PD X W (.Compare a [.NotEq] [b] pos) (e2 dNe fa fb) := d_cmp (op_neD hu) (by
  intro fr F H σ ρ n x y d v u Q R dx dy h k
  unfold dNe at h
  split at h
  · cases h
    obtain ⟨p, q, h1, h2, h3, h4, rfl⟩ := dEqB_ok ‹_›
    exact ⟨p, q, dp_of R.core.sub dx h1, dp_of R.core.sub dy h2, h3, h4, k F H _ R (Sub.refl _) (.bl _)⟩
  · cases h) ha hb (nomark _)
/-- is None -/
def e1 (op : D → Option D) (fa : EX) : EX := fun ρ => M.bind (fa ρ) fun x => M.opt (op x)
def isNon : D → Bool | .non => true | _ => false
theorem isNon_of {K : PySem.W.Frag} {dr : Option Addr} {F : Hp} {v : V} {d : D} (h : Den K W dr F v d) : decide (v = .non) = isNon d := by
  cases h <;> simp [isNon]
theorem d_isN {a : Expr} {fa : EX} {j p pos} (ha : PD X W a fa) : PD X W (.Compare a [.Is] [.Constant .none j p] pos) (e1 (fun d => some (.bl (isNon d))) fa) := imp_E (pe_cmp (pc_isN ha) rfl) fun σ H Q ⟨fr, F, ρ, n, d, n', R, e, k⟩ => by
  obtain ⟨x, n1, h1, h⟩ := M.bind_ok e
  obtain ⟨h2, h3⟩ := M.opt_ok h
  subst h3; cases h2
  exact ⟨fr, F, ρ, n, x, _, R, h1, fun F1 H1 v R1 s1 d1 => by show Q _ H1; rw [isNon_of d1]; exact k F1 H1 _ R1 s1 (.bl _)⟩
theorem d_notN {a : Expr} {fa : EX} {j p pos} (ha : PD X W a fa) : PD X W (.Compare a [.IsNot] [.Constant .none j p] pos) (e1 (fun d => some (.bl (!isNon d))) fa) := imp_E (pe_cmp (pc_notN ha) rfl) fun σ H Q ⟨fr, F, ρ, n, d, n', R, e, k⟩ => by
  obtain ⟨x, n1, h1, h⟩ := M.bind_ok e
  obtain ⟨h2, h3⟩ := M.opt_ok h
  subst h3; cases h2
  exact ⟨fr, F, ρ, n, x, _, R, h1, fun F1 H1 v R1 s1 d1 => by show Q _ H1; rw [isNon_of d1]; exact k F1 H1 _ R1 s1 (.bl _)⟩
/-- unary minus -/
def dNeg : D → Option D | .int i => some (.int (-i)) | _ => none
theorem d_neg {a : Expr} {fa : EX} {pos : Pos} (ha : PD X W a fa) : PD X W (.UnaryOp .USub a pos) (e1 dNeg fa) := imp_E (pe_un un_neg ha) fun σ H Q ⟨fr, F, ρ, n, d, n', R, e, k⟩ => by
  obtain ⟨x, n1, h1, h⟩ := M.bind_ok e
  obtain ⟨h2, h3⟩ := M.opt_ok h
  subst h3
  refine ⟨fr, F, ρ, n, x, _, R, h1, fun F1 H1 v R1 s1 d1 => ?_⟩
  unfold dNeg at h2
  split at h2
  · cases h2; cases d1
    exact ⟨_, rfl, k F1 H1 _ R1 s1 (.int _)⟩
  · cases h2
end
end DL
end

section
set_option Elab.async false
set_option linter.all false
set_option autoImplicit false
set_option maxRecDepth 100000
namespace DL
open PySem PySem.Spec L2
section
variable {X : Cx} {W : Wd}

/-! ### truth, tests -/
def dTru : D → Option Bool
  | .non => some false
  | .bl b => some b
  | .int i => some (i != 0)
  | .str x => if x.length ≤ sizeLine then some ((x.length : Int) != 0) else none
  | .tup xs => some (!xs.isEmpty)
  | .lst xs => some (!xs.isEmpty)
  | .scr => none
  | .dic _ _ => none
  | .dit _ _ => none
  | .obj _ _ _ => none
  | .drw => none
theorem tru_of {K : PySem.W.Frag} {dr : Option Addr} {F H : Hp} (s : Sub F H) {v : V} {d : D} {b : Bool} (h : Den K W dr F v d) (e : dTru d = some b) : TruV K v H b := by
  cases h with
  | non => cases e; rfl
  | bl b => cases e; rfl
  | int i => cases e; rfl
  | str x =>
    unfold dTru at e
    split at e <;> simp_all [TruV]
  | tup h1 h2 =>
    cases e
    exact .inr (.inl ⟨_, s.sqT h1, by cases h2 <;> rfl⟩)
  | lst h1 h2 =>
    cases e
    exact .inl ⟨_, SqL.of (s _ _ h1), by cases h2 <;> rfl⟩
  | scr _ => cases e
  | dic _ _ _ => cases e
  | dit _ _ _ => cases e
  | obj _ _ _ => cases e
  | drw _ => cases e
/-- the truth of a value, as a test -/
def tTru (f : EX) : TX := fun ρ => M.bind (f ρ) fun d => M.opt (dTru d)
theorem t_tru {a : Expr} {f : EX} (ha : PD X W a f) (he : ∀ whole, isTrue a X.env whole = (do let v ← whole; standAt a.pos; holding [v] (truthy v)) := by intro _; rfl) : PDT X W a (tTru f) := imp_T (pt_truth ha he) fun σ H Q ⟨fr, F, ρ, n, b, n', R, e, k⟩ => by
  obtain ⟨x, n1, h1, h⟩ := M.bind_ok e
  obtain ⟨h2, h3⟩ := M.opt_ok h
  subst h3
  exact ⟨fr, F, ρ, n, x, _, R, h1, fun F1 H1 v R1 s1 d1 => ⟨b, tru_of R1.core.sub d1 h2, k F1 H1 R1 s1⟩⟩
/-- a comparison as a test -/
def dBool : D → Option Bool | .bl b => some b | _ => none
def tB (f : EX) : TX := fun ρ => M.bind (f ρ) fun d => M.opt (dBool d)
theorem t_test {K : PySem.W.Frag} {t : TE} {f : EX} (h : ∀ σ H Q, tD K W f σ H Q → t σ H Q) {σ : St} {H : Hp} {Q : Bool → Hp → Prop} (h' : tT K W (tB f) σ H Q) : tTest t σ H Q := by
  obtain ⟨fr, F, ρ, n, b, n', R, e, k⟩ := h'
  obtain ⟨x, n1, h1, h2⟩ := M.bind_ok e
  obtain ⟨h3, h4⟩ := M.opt_ok h2
  subst h4
  refine h σ H _ ⟨fr, F, ρ, n, x, _, R, h1, fun F1 H1 v R1 s1 d1 => ?_⟩
  unfold dBool at h3
  split at h3
  · cases h3; cases d1; exact ⟨_, rfl, k F1 H1 R1 s1⟩
  · cases h3
theorem t_cmp {a b : Expr} {fa fb : EX} {o : CmpOp} {r : R2} {op : D → D → Option D} {pos : Pos} (ho : OpR X (compareOp o) r) (hd : Op2 X.K W r op) (ha : PD X W a fa) (hb : PD X W b fb) (hm : behindInMarks o b = false) : PDT X W (.Compare a [o] [b] pos) (tB (e2 op fa fb)) := imp_T (pt_cmpR ho ha hb hm) fun σ H Q h => t_test (fun _ _ _ => d_tOp hd) h
def eChain (o1 o2 : D → D → Option D) (fa fb fc : EX) : EX := fun ρ => M.bind (fa ρ) fun x => M.bind (fb ρ) fun y => M.bind (M.opt (o1 x y)) fun r => match r with
  | .bl true => M.bind (fc ρ) fun z => M.opt (o2 y z)
  | .bl false => M.pure (.bl false)
  | _ => M.opt none
theorem d_tChain {K : PySem.W.Frag} {r r' : R2} {o1 o2 : D → D → Option D} {fa fb fc : EX} (h1 : Op2 K W r o1) (h2 : Op2 K W r' o2) {σ : St} {H : Hp} {Q : VK} (h : tD K W (eChain o1 o2 fa fb fc) σ H Q) : tChain r r' (tD K W fa) (tD K W fb) (tD K W fc) σ H Q := by
  obtain ⟨fr, F, ρ, n, d, n', R, e, k⟩ := h
  obtain ⟨x, n1, e1, ha⟩ := M.bind_ok e
  obtain ⟨y, n2, e2, hb⟩ := M.bind_ok ha
  obtain ⟨z, n3, e3, h⟩ := M.bind_ok hb
  obtain ⟨e4, e5⟩ := M.opt_ok e3
  clear ha hb
  subst e5
  refine ⟨fr, F, ρ, n, x, n1, R, e1, fun F1 H1 v R1 s1 d1 => ⟨fr, F1, ρ, n1, y, _, R1, e2, fun F2 H2 u R2 s2 d2 => ?_⟩⟩
  refine h1 fr F2 H2 σ ρ _ x y z v u _ R2 (d1.mono s2 fun _ z => z) d2 e4 fun F3 H3 w R3 s3 d3 => ?_
  split at h
  · cases d3
    refine ⟨true, rfl, ?_⟩
    rw [if_pos rfl]
    obtain ⟨t, n4, e6, h⟩ := M.bind_ok h
    obtain ⟨e7, e8⟩ := M.opt_ok h
    subst e8
    exact ⟨fr, F3, ρ, _, t, _, R3, e6, fun F4 H4 w' R4 s4 d4 => h2 fr F4 H4 σ ρ _ y t d u w' Q R4 (d2.mono (s3.trans s4) fun _ z => z) d4 e7 fun F5 H5 w5 R5 s5 d5 => k F5 H5 w5 R5 ((((s1.trans s2).trans s3).trans s4).trans s5) d5⟩
  · cases d3
    refine ⟨false, rfl, ?_⟩
    rw [if_neg Bool.false_ne_true]
    obtain ⟨e6, e7⟩ := M.pure_ok h
    subst e6 e7
    exact k F3 H3 _ R3 ((s1.trans s2).trans s3) (.bl _)
  · obtain ⟨q, _⟩ := M.opt_ok h
    cases q
theorem d_chain {a b c : Expr} {fa fb fc : EX} {p q : CmpOp} {r r' : R2} {o1 o2 : D → D → Option D} {pos : Pos} (ho : OpR X (compareOp p) r) (ho' : OpR X (compareOp q) r') (h1 : Op2 X.K W r o1) (h2 : Op2 X.K W r' o2) (ha : PD X W a fa) (hb : PD X W b fb) (hc : PD X W c fc)
    (hm : lastMarks [p, q] [b, c] = false := by with_unfolding_all rfl) : PD X W (.Compare a [p, q] [b, c] pos) (eChain o1 o2 fa fb fc) := imp_E (pe_chain ho ho' ha hb hc hm) fun _ _ _ h => d_tChain h1 h2 h
theorem t_chain {a b c : Expr} {fa fb fc : EX} {p q : CmpOp} {r r' : R2} {o1 o2 : D → D → Option D} {pos : Pos} (ho : OpR X (compareOp p) r) (ho' : OpR X (compareOp q) r') (h1 : Op2 X.K W r o1) (h2 : Op2 X.K W r' o2) (ha : PD X W a fa) (hb : PD X W b fb) (hc : PD X W c fc)
    (hm : lastMarks [p, q] [b, c] = false := by with_unfolding_all rfl) : PDT X W (.Compare a [p, q] [b, c] pos) (tB (eChain o1 o2 fa fb fc)) := imp_T (pt_chain ho ho' ha hb hc hm) fun _ _ _ h => t_test (fun _ _ _ => d_tChain h1 h2) h
/-- and, or, not, as tests -/
def tAndD (t u : TX) : TX := fun ρ => M.bind (t ρ) fun b => match b with | true => u ρ | false => M.pure false
def tOrD (t u : TX) : TX := fun ρ => M.bind (t ρ) fun b => match b with | true => M.pure true | false => u ρ
def tNotD (t : TX) : TX := fun ρ => M.bind (t ρ) fun b => M.pure (!b)
theorem w_and1 {a : Expr} {t : TX} {pos : Pos} (h : PDT X W a t) : PDW X W (.BoolOp .And [a] pos) t := pw_and1 h
theorem w_or1 {a : Expr} {t : TX} {pos : Pos} (h : PDT X W a t) : PDW X W (.BoolOp .Or [a] pos) t := pw_or1 h
theorem tAnd_of {K : PySem.W.Frag} {t u : TX} {σ : St} {H : Hp} {Q : Bool → Hp → Prop} (h : tT K W (tAndD t u) σ H Q) : tAnd (tT K W t) (tT K W u) σ H Q := by
  obtain ⟨fr, F, ρ, n, b, n', R, e, k⟩ := h
  obtain ⟨x, n1, e1, h⟩ := M.bind_ok e
  refine ⟨fr, F, ρ, n, x, n1, R, e1, fun F1 H1 R1 s1 => ?_⟩
  cases x with
  | true =>
    rw [if_pos rfl]
    exact ⟨fr, F1, ρ, n1, b, n', R1, h, fun F2 H2 R2 s2 => k F2 H2 R2 (s1.trans s2)⟩
  | false =>
    rw [if_neg Bool.false_ne_true]
    obtain ⟨e6, e7⟩ := M.pure_ok h
    subst e6 e7
    exact k F1 H1 R1 s1
theorem tOr_of {K : PySem.W.Frag} {t u : TX} {σ : St} {H : Hp} {Q : Bool → Hp → Prop} (h : tT K W (tOrD t u) σ H Q) : tOr (tT K W t) (tT K W u) σ H Q := by
  obtain ⟨fr, F, ρ, n, b, n', R, e, k⟩ := h
  obtain ⟨x, n1, e1, h⟩ := M.bind_ok e
  refine ⟨fr, F, ρ, n, x, n1, R, e1, fun F1 H1 R1 s1 => ?_⟩
  cases x with
  | false =>
    rw [if_neg Bool.false_ne_true]
    exact ⟨fr, F1, ρ, n1, b, n', R1, h, fun F2 H2 R2 s2 => k F2 H2 R2 (s1.trans s2)⟩
  | true =>
    rw [if_pos rfl]
    obtain ⟨e6, e7⟩ := M.pure_ok h
    subst e6 e7
    exact k F1 H1 R1 s1
theorem w_and {a b : Expr} {r : List Expr} {t u : TX} {pos : Pos} (h : PDT X W a t) (h' : PDW X W (.BoolOp .And (b :: r) pos) u) : PDW X W (.BoolOp .And (a :: b :: r) pos) (tAndD t u) := imp_W (pw_and h h') fun _ _ _ => tAnd_of
theorem w_or {a b : Expr} {r : List Expr} {t u : TX} {pos : Pos} (h : PDT X W a t) (h' : PDW X W (.BoolOp .Or (b :: r) pos) u) : PDW X W (.BoolOp .Or (a :: b :: r) pos) (tOrD t u) := imp_W (pw_or h h') fun _ _ _ => tOr_of
theorem t_w {e : Expr} {t : TX} (h : PDW X W e t) : PDT X W e t := h.pt
theorem t_not {a : Expr} {t : TX} {pos : Pos} (h : PDT X W a t) : PDT X W (.UnaryOp .Not a pos) (tNotD t) := imp_T (pt_not h) fun σ H Q ⟨fr, F, ρ, n, b, n', R, e, k⟩ => by
  obtain ⟨x, n1, e1, h⟩ := M.bind_ok e
  obtain ⟨e6, e7⟩ := M.pure_ok h
  subst e6 e7
  exact ⟨fr, F, ρ, n, x, _, R, e1, fun F1 H1 R1 s1 => k F1 H1 R1 s1⟩
/-- and, or, not, as values -/
def eAnd (f g : EX) : EX := fun ρ => M.bind (f ρ) fun d => M.bind (M.opt (dTru d)) fun b => match b with | true => g ρ | false => M.pure d
def eOr (f g : EX) : EX := fun ρ => M.bind (f ρ) fun d => M.bind (M.opt (dTru d)) fun b => match b with | true => M.pure d | false => g ρ
def eNot (f : EX) : EX := fun ρ => M.bind (f ρ) fun d => M.bind (M.opt (dTru d)) fun b => M.pure (.bl (!b))
theorem d_one {a : Expr} {f : EX} {o : BoolOp} {pos : Pos} (h : PD X W a f) : PD X W (.BoolOp o [a] pos) f := pe_one h
theorem d_and {a b : Expr} {r : List Expr} {f g : EX} {pos : Pos} (h : PD X W a f) (h' : PD X W (.BoolOp .And (b :: r) pos) g) : PD X W (.BoolOp .And (a :: b :: r) pos) (eAnd f g) := imp_E (pe_andT h h') fun σ H Q ⟨fr, F, ρ, n, d, n', R, e, k⟩ => by
  obtain ⟨x, n1, e1, ha⟩ := M.bind_ok e
  obtain ⟨b, n2, e2, h⟩ := M.bind_ok ha
  obtain ⟨e3, e4⟩ := M.opt_ok e2
  clear ha
  subst e4
  refine ⟨fr, F, ρ, n, x, _, R, e1, fun F1 H1 v R1 s1 d1 => ⟨b, tru_of R1.core.sub d1 e3, ?_⟩⟩
  cases b with
  | true =>
    rw [if_pos rfl]
    exact ⟨fr, F1, ρ, _, d, n', R1, h, fun F2 H2 u R2 s2 d2 => k F2 H2 u R2 (s1.trans s2) d2⟩
  | false =>
    rw [if_neg Bool.false_ne_true]
    obtain ⟨e6, e7⟩ := M.pure_ok h
    subst e6 e7
    exact k F1 H1 v R1 s1 d1
theorem d_or {a b : Expr} {r : List Expr} {f g : EX} {pos : Pos} (h : PD X W a f) (h' : PD X W (.BoolOp .Or (b :: r) pos) g) : PD X W (.BoolOp .Or (a :: b :: r) pos) (eOr f g) := imp_E (pe_orT h h') fun σ H Q ⟨fr, F, ρ, n, d, n', R, e, k⟩ => by
  obtain ⟨x, n1, e1, ha⟩ := M.bind_ok e
  obtain ⟨b, n2, e2, h⟩ := M.bind_ok ha
  obtain ⟨e3, e4⟩ := M.opt_ok e2
  clear ha
  subst e4
  refine ⟨fr, F, ρ, n, x, _, R, e1, fun F1 H1 v R1 s1 d1 => ⟨b, tru_of R1.core.sub d1 e3, ?_⟩⟩
  cases b with
  | false =>
    rw [if_neg Bool.false_ne_true]
    exact ⟨fr, F1, ρ, _, d, n', R1, h, fun F2 H2 u R2 s2 d2 => k F2 H2 u R2 (s1.trans s2) d2⟩
  | true =>
    rw [if_pos rfl]
    obtain ⟨e6, e7⟩ := M.pure_ok h
    subst e6 e7
    exact k F1 H1 v R1 s1 d1
theorem d_not {a : Expr} {f : EX} {pos : Pos} (h : PD X W a f) : PD X W (.UnaryOp .Not a pos) (eNot f) := imp_E (pe_notT h) fun σ H Q ⟨fr, F, ρ, n, d, n', R, e, k⟩ => by
  obtain ⟨x, n1, e1, ha⟩ := M.bind_ok e
  obtain ⟨b, n2, e2, h⟩ := M.bind_ok ha
  obtain ⟨e3, e4⟩ := M.opt_ok e2
  clear ha
  subst e4
  obtain ⟨e6, e7⟩ := M.pure_ok h
  subst e6 e7
  exact ⟨fr, F, ρ, n, x, _, R, e1, fun F1 H1 v R1 s1 d1 => ⟨b, tru_of R1.core.sub d1 e3, k F1 H1 _ R1 s1 (.bl _)⟩⟩
def eIf (t : TX) (f g : EX) : EX := fun ρ => M.bind (t ρ) fun b => match b with | true => f ρ | false => g ρ
theorem d_if {c a b : Expr} {t : TX} {f g : EX} {pos : Pos} (hc : PDT X W c t) (ha : PD X W a f) (hb : PD X W b g) : PD X W (.IfExp c a b pos) (eIf t f g) := imp_E (pe_ifExp hc ha hb) fun σ H Q ⟨fr, F, ρ, n, d, n', R, e, k⟩ => by
  obtain ⟨b, n1, e1, h⟩ := M.bind_ok e
  refine ⟨fr, F, ρ, n, b, n1, R, e1, fun F1 H1 R1 s1 => ?_⟩
  cases b with
  | true =>
    rw [if_pos rfl]
    exact ⟨fr, F1, ρ, n1, d, n', R1, h, fun F2 H2 v R2 s2 d2 => k F2 H2 v R2 (s1.trans s2) d2⟩
  | false =>
    rw [if_neg Bool.false_ne_true]
    exact ⟨fr, F1, ρ, n1, d, n', R1, h, fun F2 H2 v R2 s2 d2 => k F2 H2 v R2 (s1.trans s2) d2⟩

/-! ### subscripts -/
def dIx : D → D → Option D
  | .tup xs, .int i => atI xs i
  | .lst xs, .int i => atI xs i
  | .str z, .int i => if z.length ≤ sizeLine then (match atI z.cps.toList i with | some c => some (.str ⟨#[c]⟩) | none => none) else none
  | .scr, .int i => none
  | _, _ => none
theorem Dens.at {K : PySem.W.Frag} {dr : Option Addr} {F : Hp} {vs : List V} {ds : List D} {i : Int} {d : D} (h : Dens K W dr F vs ds) (e : atI ds i = some d) : ∃ v, atI vs i = some v ∧ Den K W dr F v d := by
  unfold atI at e ⊢
  rw [h.length]
  cases q : ixN ds.length i with
  | none => rw [q] at e; cases e
  | some j =>
    rw [q] at e
    exact h.get e
theorem q_ix {K : PySem.W.Frag} : Op2 K W (rIx K) dIx := by
  intro fr F H σ ρ n x y d v u Q R dx dy h k
  unfold dIx at h
  split at h
  · cases dx with
    | tup h1 h2 =>
      cases dy
      obtain ⟨w, e1, e2⟩ := h2.at h
      exact .inr (.inl ⟨_, _, _, w, rfl, rfl, R.core.sub.sqT h1, e1, k F H w R (Sub.refl _) e2⟩)
  · cases dx with
    | lst h1 h2 =>
      cases dy
      obtain ⟨w, e1, e2⟩ := h2.at h
      exact .inl ⟨_, _, _, w, rfl, rfl, SqL.of (R.core.sub _ _ h1), e1, k F H w R (Sub.refl _) e2⟩
  · cases dx; cases dy
    split at h
    · split at h
      · cases h
        exact .inr (.inr ⟨_, _, _, rfl, rfl, ‹_›, ‹_›, k F H _ R (Sub.refl _) (.str _)⟩)
      · cases h
    · cases h
  · cases h
  · cases h
theorem d_ix {a b : Expr} {fa fb : EX} {pos : Pos} (ha : PD X W a fa) (hb : PD X W b fb) (hs : PlainIx b := by exact fun _ _ => rfl) : PD X W (.Subscript a b pos) (e2 dIx fa fb) := imp_E (pe_ix ix_seq ha hb hs) fun _ _ _ h => d_tOp q_ix h

/-! ### slices a[lo:hi] -/
abbrev EO := Env → M (Option Int)
def oNone : EO := fun _ => M.pure none
def oSome (f : EX) : EO := fun ρ => M.bind (f ρ) fun d => M.opt (match d with | .int i => some (some i) | _ => none)
def tOD (K : PySem.W.Frag) (W : Wd) (f : EO) : TO := fun σ H Q => ∃ fr F ρ n o n', Rel K W fr F H σ ρ n ∧ f ρ n = some (.ok o, n') ∧ ∀ F' H', Rel K W fr F' H' σ ρ n' → Sub F F' → Q o H'
theorem imp_O {e : Option Expr} {t t' : TO} (h : PO X e t) (k : ∀ σ H Q, t' σ H Q → t σ H Q) : PO X e t' := ⟨fun pins s σ H Q I q => h.run pins s σ H Q I (k σ H Q q)⟩
theorem o_none : PO X none (tOD X.K W oNone) := imp_O po_none fun σ H Q ⟨fr, F, ρ, n, o, n', R, e, k⟩ => by
  obtain ⟨e6, e7⟩ := M.pure_ok e
  subst e6 e7
  exact k F H R (Sub.refl _)
theorem o_some {e : Expr} {f : EX} (h : PD X W e f) : PO X (some e) (tOD X.K W (oSome f)) := imp_O (po_some h) fun σ H Q ⟨fr, F, ρ, n, o, n', R, e, k⟩ => by
  obtain ⟨x, n1, e1, h⟩ := M.bind_ok e
  obtain ⟨e3, e4⟩ := M.opt_ok h
  subst e4
  refine ⟨fr, F, ρ, n, x, _, R, e1, fun F1 H1 v R1 s1 d1 => ?_⟩
  split at e3
  · cases e3; cases d1; exact ⟨_, rfl, k F1 H1 R1 s1⟩
  · cases e3
def cutD (xs : List D) (lo hi : Option Int) : List D := (xs.drop (HT.sIx xs.length 0 lo)).take (HT.sIx xs.length xs.length hi - HT.sIx xs.length 0 lo)
theorem Dens.cut {K : PySem.W.Frag} {dr : Option Addr} {F : Hp} {vs : List V} {ds : List D} (h : Dens K W dr F vs ds) (lo hi : Option Int) : Dens K W dr F (cutV vs lo hi) (cutD ds lo hi) := by
  unfold cutV cutD
  rw [h.length]
  exact (h.drop _).take _
def dCut (x : D) (lo hi : Option Int) : Option D := match x with
  | .tup xs => some (.tup (cutD xs lo hi))
  | .lst xs => some (.lst (cutD xs lo hi))
  | _ => none
theorem cut_whole {xs : List D} {lo hi : Option Int} (h : HT.sIx xs.length 0 lo = 0 ∧ HT.sIx xs.length xs.length hi = xs.length) : cutD xs lo hi = xs := by
  unfold cutD
  rw [h.1, h.2]
  simp
def eCut (f : EX) (lo hi : EO) : EX := fun ρ => M.bind (f ρ) fun x => M.bind (lo ρ) fun l => M.bind (hi ρ) fun h => M.opt (dCut x l h)
theorem d_cut {a : Expr} {lo hi : Option Expr} {f : EX} {l h : EO} {p2 pos : Pos} (ha : PD X W a f) (hl : PO X lo (tOD X.K W l)) (hh : PO X hi (tOD X.K W h)) : PD X W (.Subscript a (.Slice lo hi none p2) pos) (eCut f l h) := imp_E (pe_slice (sl_tupA.or sl_list) ha hl hh) fun σ H Q ⟨fr, F, ρ, n, d, n', R, e, k⟩ => by
  obtain ⟨x, n1, e1, h⟩ := M.bind_ok e
  obtain ⟨l', n2, e2, h⟩ := M.bind_ok h
  obtain ⟨u', n3, e3, h⟩ := M.bind_ok h
  obtain ⟨e4, e5⟩ := M.opt_ok h
  subst e5
  refine ⟨fr, F, ρ, n, x, _, R, e1, fun F1 H1 v R1 s1 d1 => ⟨fr, F1, ρ, _, l', _, R1, e2, fun F2 H2 R2 s2 => ⟨fr, F2, ρ, _, u', _, R2, e3, fun F3 H3 R3 s3 => ?_⟩⟩⟩
  have k' : ∀ F' H' w, Rel X.K W fr F' H' σ ρ _ → Sub F3 F' → Den X.K W fr.dr F' w d → Q w H' := fun F' H' w r s dd => k F' H' w r (((s1.trans s2).trans s3).trans s) dd
  have d3 := d1.mono (dr' := fr.dr) (s2.trans s3) fun _ z => z
  unfold dCut at e4
  split at e4
  · cases e4
    cases d3 with
    | tup h1 h2 =>
      refine .inl ⟨_, _, rfl, R3.core.sub.sqT h1, fun q => ?_, fun _ => put_tup R3 (h2.cut _ _) k'⟩
      have q' := q
      rw [h2.length] at q'
      exact k' F3 H3 _ R3 (Sub.refl _) (by rw [cut_whole q']; exact .tup h1 h2)
  · cases e4
    cases d3 with
    | lst h1 h2 => exact .inr ⟨_, _, rfl, SqL.of (R3.core.sub _ _ h1), put_lst R3 (h2.cut _ _) k'⟩
  · cases e4

/-! ### built-ins by values -/
/-- a built-in called -/
def CallD (K : PySem.W.Frag) (W : Wd) (r : List V → Hp → VK → Prop) (op : List D → Option D) : Prop := ∀ (fr : Fr) (F H : Hp) (σ : St) (ρ : Env) (n : Int) (xs : List D) (d : D) (vs : List V) (Q : VK), Rel K W fr F H σ ρ n → Dens K W fr.dr F vs xs → op xs = some d →
  (∀ F' H' w, Rel K W fr F' H' σ ρ n → Sub F F' → Den K W fr.dr F' w d → Q w H') → r vs H Q
def eB (op : List D → Option D) (f : EXs) : EX := fun ρ => M.bind (f ρ) fun xs => M.opt (op xs)
theorem tCB_of {K : PySem.W.Frag} {r : List V → Hp → VK → Prop} {op : List D → Option D} {f : EXs} (hd : CallD K W r op) {σ : St} {H : Hp} {Q : VK} (h : tD K W (eB op f) σ H Q) : tCB r (tDs K W f) σ H Q := by
  obtain ⟨fr, F, ρ, n, d, n', R, e, k⟩ := h
  obtain ⟨x, n1, e1, h⟩ := M.bind_ok e
  obtain ⟨e4, e5⟩ := M.opt_ok h
  subst e5
  exact ⟨fr, F, ρ, n, x, _, R, e1, fun F1 H1 vs R1 s1 d1 => hd fr F1 H1 σ ρ _ x d vs Q R1 d1 e4 fun F2 H2 w R2 s2 d2 => k F2 H2 w R2 (s1.trans s2) d2⟩
def dLen : List D → Option D
  | [.tup xs] => some (.int xs.length)
  | [.lst xs] => some (.int xs.length)
  | [.str x] => if x.length ≤ sizeLine then some (.int x.length) else none
  | _ => none
theorem q_len {K : PySem.W.Frag} : CallD K W (fun xs H Q => ∃ x n, xs = [x] ∧ LenV K x H n ∧ Q (.int n) H) dLen := by
  intro fr F H σ ρ n xs d vs Q R dx h k
  unfold dLen at h
  split at h
  · cases h
    cases dx with
    | cons h1 h2 =>
      cases h2
      cases h1 with
      | tup h3 h4 => exact ⟨_, _, rfl, .inr ⟨_, R.core.sub.sqT h3, rfl⟩, by rw [h4.length]; exact k F H _ R (Sub.refl _) (.int _)⟩
  · cases h
    cases dx with
    | cons h1 h2 =>
      cases h2
      cases h1 with
      | lst h3 h4 => exact ⟨_, _, rfl, .inl ⟨_, SqL.of (R.core.sub _ _ h3), rfl⟩, by rw [h4.length]; exact k F H _ R (Sub.refl _) (.int _)⟩
  · split at h
    · cases h
      cases dx with
      | cons h1 h2 =>
        cases h2
        cases h1
        exact ⟨_, _, rfl, ⟨‹_›, rfl⟩, k F H _ R (Sub.refl _) (.int _)⟩
    · cases h
  · cases h
end
end DL
end

section
set_option Elab.async false
set_option linter.all false
set_option autoImplicit false
set_option maxRecDepth 100000
namespace DL
open PySem PySem.Spec L2
section
variable {K : PySem.W.Frag} {W : Wd} {fr : Fr} {F F' H H' : Hp} {σ σ' : St} {ρ ρ' : Env} {n n' : Int}
/-! ### slots stored -/
theorem get_set_self {α : Type} {l : List α} {i : Nat} {a : α} (h : i < l.length) : (l.set i a)[i]? = some a := by simp [h]
theorem Rel.set (r : Rel K W fr F H σ ρ n) {i : Nat} {v : V} {d : D} (h : Den K W fr.dr F v d) : Rel K W fr F H (σ.set i (some v)) (ρ.set i (.val d)) n := by
  obtain ⟨ad, s⟩ := r.slots
  refine ⟨r.core, ad, by simp [s.len], fun j e q => ?_, fun j e q => ?_, fun j k e e' q q' => ?_⟩
  · by_cases hj : i = j
    · subst hj
      by_cases hi : i < ρ.length
      · rw [get_set_self hi] at q
        cases q
        exact ⟨v, get_set_self (by rw [s.len]; exact hi), h⟩
      · rw [List.getElem?_eq_none (by simpa using hi)] at q; cases q
    · rw [List.getElem?_set_ne hj] at q
      obtain ⟨u, h1, h2⟩ := s.val j e q
      exact ⟨u, by rw [List.getElem?_set_ne hj]; exact h1, h2⟩
  · by_cases hj : i = j
    · subst hj
      by_cases hi : i < ρ.length
      · rw [get_set_self hi] at q; cases q
      · rw [List.getElem?_eq_none (by simpa using hi)] at q; cases q
    · rw [List.getElem?_set_ne hj] at q
      obtain ⟨h1, h2⟩ := s.own j e q
      exact ⟨by rw [List.getElem?_set_ne hj]; exact h1, h2⟩
  · by_cases hj : i = j
    · subst hj
      by_cases hi : i < ρ.length
      · rw [get_set_self hi] at q; cases q
      · rw [List.getElem?_eq_none (by simpa using hi)] at q; cases q
    · by_cases hk : i = k
      · subst hk
        by_cases hi : i < ρ.length
        · rw [get_set_self hi] at q'; cases q'
        · rw [List.getElem?_eq_none (by simpa using hi)] at q'; cases q'
      · rw [List.getElem?_set_ne hj] at q
        rw [List.getElem?_set_ne hk] at q'
        exact s.inj j k e e' q q'
/-- a new object of one's own in a slot -/
theorem Rel.setOwn (r : Rel K W fr F H σ ρ n) {i : Nat} {p : Addr} {o : HO} {d : D} (hp : H p = none) (hd : isO d = false) (h : MDen K W fr.dr F (upd H p o) p d) : Rel K W fr F (upd H p o) (σ.set i (some (.ref p))) (ρ.set i (.own d)) n := by
  obtain ⟨ad, s⟩ := r.slots
  have hF := r.core.noF hp
  have kp : ∀ a u, H a = some u → upd H p o a = some u := fun a u q => by rw [upd_ne (ne_of_none q hp)]; exact q
  have old : ∀ (j : Nat) (e : D), ρ[j]? = some (.own e) → ad j ≠ p := fun j e q z => by
    obtain ⟨u, hu⟩ := (s.own j e q).2.2.2.2.1.there
    rw [z, hp] at hu; cases hu
  refine ⟨r.core.fresh' hp, fun j => if j = i then p else ad j, by simp [s.len], fun j e q => ?_, fun j e q => ?_, fun j k e e' q q' z => ?_⟩
  · by_cases hj : i = j
    · subst hj
      by_cases hi : i < ρ.length
      · rw [get_set_self hi] at q; cases q
      · rw [List.getElem?_eq_none (by simpa using hi)] at q; cases q
    · rw [List.getElem?_set_ne hj] at q
      obtain ⟨u, h1, h2⟩ := s.val j e q
      exact ⟨u, by rw [List.getElem?_set_ne hj]; exact h1, h2⟩
  · by_cases hj : i = j
    · subst hj
      by_cases hi : i < ρ.length
      · rw [get_set_self hi] at q
        cases q
        simp only [if_true]
        exact ⟨get_set_self (by rw [s.len]; exact hi), hF, r.core.ndr hp, .inl (r.core.noH0 hp), h, .inr ⟨hd, r.core.noH0 hp⟩⟩
      · rw [List.getElem?_eq_none (by simpa using hi)] at q; cases q
    · rw [List.getElem?_set_ne hj] at q
      obtain ⟨h1, h2, h3, h4, h5, h6⟩ := s.own j e q
      simp only [if_neg (Ne.symm hj)]
      exact ⟨by rw [List.getElem?_set_ne hj]; exact h1, h2, h3, h4, h5.mono (Sub.refl _) (fun u z => kp _ _ z), h6⟩
  · have len : ∀ {j : Nat} {e : D}, (ρ.set i (Sl.own d))[j]? = some (Sl.own e) → j ≠ i → ρ[j]? = some (Sl.own e) := fun {j e} q hj => by
      rw [List.getElem?_set_ne (Ne.symm hj)] at q; exact q
    by_cases hj : j = i
    · by_cases hk : k = i
      · rw [hj, hk]
      · simp only [if_pos hj, if_neg hk] at z
        exact absurd z.symm (old k e' (len q' hk))
    · by_cases hk : k = i
      · simp only [if_neg hj, if_pos hk] at z
        exact absurd z (old j e (len q hj))
      · simp only [if_neg hj, if_neg hk] at z
        exact s.inj j k e e' (len q hj) (len q' hk) z
/-- what is one's own, changed -/
theorem Rel.change (r : Rel K W fr F H σ ρ n) {i : Nat} {d d' : D} {o : HO} {ad : Nat → Addr} (s : Slots K W fr F H σ ρ ad) (hi : ρ[i]? = some (.own d)) (h : MDen K W fr.dr F (upd H (ad i) o) (ad i) d') (hd : isO d' = isO d) : Rel K W fr F (upd H (ad i) o) σ (ρ.set i (.own d')) n := by
  obtain ⟨h1, h2, h3, h4, h5, h6⟩ := s.own i d hi
  have hlt : i < ρ.length := (List.getElem?_eq_some_iff.mp hi).1
  have c := r.core
  have core : Core K W fr F (upd H (ad i) o) n := {
    sub := fun a u q => by rw [upd_ne (ne_of_none q h2)]; exact c.sub _ _ q
    base := fun a u q q2 q3 => by
      have ne : a ≠ ad i := fun z => by
        subst z
        rcases h4 with h4 | h4
        · rw [h4] at q; cases q
        · exact q3 h4
      rw [upd_ne ne]; exact c.base a u q q2 q3
    f0 := c.f0
    new := c.new
    there := fun a u q => by
      by_cases e : a = ad i
      · rw [e]; exact ⟨_, upd_same⟩
      · obtain ⟨o', z⟩ := c.there a u q
        exact ⟨o', by rw [upd_ne e]; exact z⟩
    draw := fun a e => by
      obtain ⟨q1, q2, q3⟩ := c.draw a e
      have ne : a ≠ ad i := fun z => h3 (by rw [← z]; exact e)
      exact ⟨q1, by rw [upd_ne ne]; exact q2, q3⟩ }
  refine ⟨core, ad, by simp [s.len], fun j e q => ?_, fun j e q => ?_, fun j k e e' q q' z => ?_⟩
  · by_cases hj : i = j
    · subst hj; rw [get_set_self hlt] at q; cases q
    · rw [List.getElem?_set_ne hj] at q
      exact s.val j e q
  · by_cases hj : i = j
    · subst hj
      rw [get_set_self hlt] at q
      cases q
      exact ⟨h1, h2, h3, h4, h, by rw [hd]; exact h6⟩
    · rw [List.getElem?_set_ne hj] at q
      obtain ⟨q1, q2, q3, q4, q5, q6⟩ := s.own j e q
      refine ⟨q1, q2, q3, q4, q5.mono (Sub.refl _) fun u z => ?_, q6⟩
      have ne : ad j ≠ ad i := fun w => hj (s.inj i j d e hi q w.symm)
      rw [upd_ne ne]; exact z
  · have key : ∀ {j : Nat} {e : D}, (ρ.set i (Sl.own d'))[j]? = some (Sl.own e) → ∃ e', ρ[j]? = some (Sl.own e') := fun {j e} q => by
      by_cases hj : i = j
      · subst hj; exact ⟨_, hi⟩
      · rw [List.getElem?_set_ne hj] at q; exact ⟨_, q⟩
    obtain ⟨a, qa⟩ := key q
    obtain ⟨b, qb⟩ := key q'
    exact s.inj j k a b qa qb z
/-- one's own, given out -/
def frz (i : Nat) (ρ : Env) : Env := match ρ[i]? with
  | some (.own d) => ρ.set i (.val d)
  | _ => ρ
def HO' (K : PySem.W.Frag) (W : Wd) (H : Hp) (a : Addr) : Option HO := H a
theorem Rel.freeze (r : Rel K W fr F H σ ρ n) {i : Nat} {d : D} {ad : Nat → Addr} (s : Slots K W fr F H σ ρ ad) (hi : ρ[i]? = some (.own d)) (hx : fr.H0 (ad i) = none) : ∃ F', Sub F F' ∧ Rel K W fr F' H σ (ρ.set i (.val d)) n := by
  obtain ⟨h1, h2, h3, h4, h5, h6⟩ := s.own i d hi
  obtain ⟨o, ho⟩ := h5.there
  have hlt : i < ρ.length := (List.getElem?_eq_some_iff.mp hi).1
  have c := r.core
  have up : Sub F (upd F (ad i) o) := fun a u q => by rw [upd_ne (ne_of_none q h2)]; exact q
  have core : Core K W fr (upd F (ad i) o) H n := {
    sub := fun a u q => by
      by_cases e : a = ad i
      · rw [e, upd_same] at q; rw [e, ho]; exact q
      · rw [upd_ne e] at q; exact c.sub _ _ q
    base := c.base
    f0 := c.f0.trans up
    new := fun a u q q2 => by
      have e : a ≠ ad i := ne_of_none q hx
      rw [upd_ne e]; exact c.new a u q q2
    there := c.there
    draw := fun a e => by
      obtain ⟨q1, q2, q3⟩ := c.draw a e
      have ne : a ≠ ad i := fun z => h3 (by rw [← z]; exact e)
      exact ⟨by rw [upd_ne ne]; exact q1, q2, up.sqL q3⟩ }
  have den : Den K W fr.dr (upd F (ad i) o) (.ref (ad i)) d := by
    cases d with
    | lst ds => obtain ⟨vs, e, q⟩ := h5; rw [ho] at e; cases e; exact .lst upd_same (q.mono up fun _ z => z)
    | dic ks ds => obtain ⟨vs, l, e, q⟩ := h5; rw [ho] at e; cases e; exact .dic l (.inl upd_same) (q.mono up fun _ z => z)
    | dit ks ds => obtain ⟨vs, l, e, q⟩ := h5; rw [ho] at e; cases e; exact .dit l (.inl upd_same) (q.mono up fun _ z => z)
    | obj c ks ds => obtain ⟨dx, vs, l, e, q⟩ := h5; rw [ho] at e; cases e; exact .obj l upd_same (q.mono up fun _ z => z)
    | non => exact h5.elim
    | bl _ => exact h5.elim
    | int _ => exact h5.elim
    | str _ => exact h5.elim
    | tup _ => exact h5.elim
    | drw => exact h5.elim
    | scr => exact h5.elim
  refine ⟨_, up, core, ad, by simp [s.len], fun j e q => ?_, fun j e q => ?_, fun j k e e' q q' z => ?_⟩
  · by_cases hj : i = j
    · subst hj; rw [get_set_self hlt] at q; cases q
      exact ⟨_, h1, den⟩
    · rw [List.getElem?_set_ne hj] at q
      obtain ⟨v, q1, q2⟩ := s.val j e q
      exact ⟨v, q1, q2.mono up fun _ z => z⟩
  · by_cases hj : i = j
    · subst hj; rw [get_set_self hlt] at q; cases q
    · rw [List.getElem?_set_ne hj] at q
      obtain ⟨q1, q2, q3, q4, q5, q6⟩ := s.own j e q
      have ne : ad j ≠ ad i := fun w => hj (s.inj i j d e hi q w.symm)
      exact ⟨q1, by rw [upd_ne ne]; exact q2, q3, q4, q5.mono up fun _ z => z, q6⟩
  · by_cases hj : i = j
    · subst hj; rw [get_set_self hlt] at q; cases q
    · by_cases hk : i = k
      · subst hk; rw [get_set_self hlt] at q'; cases q'
      · rw [List.getElem?_set_ne hj] at q
        rw [List.getElem?_set_ne hk] at q'
        exact s.inj j k e e' q q' z
end

/-! ### targets -/
abbrev GX := D → Env → Option Env
abbrev GXs := List D → Env → Option Env
def gV (i : Nat) : GX := fun d ρ => some (ρ.set i (.val d))
def gsN : GXs := fun ds ρ => match ds with | [] => some ρ | _ => none
def gsC (g : GX) (gs : GXs) : GXs := fun ds ρ => match ds with
  | [] => none
  | d :: r => (g d ρ).bind fun ρ1 => gs r ρ1
def gT (gs : GXs) : GX := fun d ρ => match d with | .tup ds => gs ds ρ | _ => none
theorem wipe_get (σ : St) (j : Nat) : ∀ vs : List Nat, (wipe σ vs)[j]? = if j ∈ vs then (if j < σ.length then some none else none) else σ[j]?
  | [] => by simp [wipe]
  | v :: vs => by
    unfold wipe
    by_cases hj : v = j
    · subst hj
      rw [if_pos List.mem_cons_self]
      by_cases hl : v < σ.length
      · rw [if_pos hl, get_set_self (by rw [wipe_length]; exact hl)]
      · rw [if_neg hl, List.getElem?_eq_none (by rw [List.length_set, wipe_length]; omega)]
    · rw [List.getElem?_set_ne hj, wipe_get σ j vs]
      have : (j ∈ v :: vs) = (j ∈ vs) := by simp [Ne.symm hj]
      simp only [this]
/-- the slots is alone have changed -/
def Wip (is : List Nat) (σ σ' : St) : Prop := ∀ vs : List Nat, (∀ i ∈ is, i ∈ vs) → wipe σ' vs = wipe σ vs
theorem Wip.refl (is : List Nat) (σ : St) : Wip is σ σ := fun _ _ => rfl
theorem Wip.trans {is : List Nat} {σ σ1 σ2 : St} (a : Wip is σ σ1) (b : Wip is σ1 σ2) : Wip is σ σ2 := fun vs h => (b vs h).trans (a vs h)
theorem Wip.mono {is js : List Nat} {σ σ1 : St} (a : Wip is σ σ1) (h : ∀ i ∈ is, i ∈ js) : Wip js σ σ1 := fun vs k => a vs fun i hi => k i (h i hi)
theorem Wip.set (σ : St) (i : Nat) (x : Option V) : Wip [i] σ (σ.set i x) := fun vs h => by
  have hi : i ∈ vs := h i (by simp)
  apply List.ext_getElem?
  intro j
  rw [wipe_get, wipe_get, List.length_set]
  by_cases hj : j ∈ vs
  · rw [if_pos hj, if_pos hj]
  · rw [if_neg hj, if_neg hj, List.getElem?_set_ne (fun e => hj (by rw [← e]; exact hi))]
theorem wipe_wipe (σ : St) (vs : List Nat) : wipe (wipe σ vs) vs = wipe σ vs := by
  apply List.ext_getElem?
  intro j
  rw [wipe_get, wipe_get, wipe_length]
  by_cases hj : j ∈ vs
  · rw [if_pos hj, if_pos hj]
  · rw [if_neg hj, if_neg hj]
/-- a target over data -/
def GOk (K : PySem.W.Frag) (W : Wd) (t : TG) (g : GX) (is : List Nat) : Prop := ∀ (fr : Fr) (F H : Hp) (σ : St) (ρ ρ' : Env) (n : Int) (v : V) (d : D) (Q : St → Hp → Prop), Rel K W fr F H σ ρ n → Den K W fr.dr F v d → g d ρ = some ρ' →
  (∀ σ', Rel K W fr F H σ' ρ' n → Wip is σ σ' → Q σ' H) → t v σ H Q
def GsOk (K : PySem.W.Frag) (W : Wd) (t : TGs) (g : GXs) (is : List Nat) : Prop := ∀ (fr : Fr) (F H : Hp) (σ : St) (ρ ρ' : Env) (n : Int) (vs : List V) (ds : List D) (Q : St → Hp → Prop), Rel K W fr F H σ ρ n → Dens K W fr.dr F vs ds → g ds ρ = some ρ' →
  (∀ σ', Rel K W fr F H σ' ρ' n → Wip is σ σ' → Q σ' H) → t vs σ H Q
section
variable {K : PySem.W.Frag} {W : Wd}
theorem q_gV (i : Nat) : GOk K W (gName i) (gV i) [i] := fun fr F H σ ρ ρ' n v d Q R hd e k => by
  cases e
  exact k _ (R.set hd) (Wip.set _ _ _)
theorem q_gsN : GsOk K W gNil gsN [] := fun fr F H σ ρ ρ' n vs ds Q R hd e k => by
  unfold gsN at e
  split at e
  · cases e; cases hd; exact ⟨rfl, k _ R (Wip.refl _ _)⟩
  · cases e
theorem q_gsC {t : TG} {u : TGs} {g : GX} {gs : GXs} {is js : List Nat} (h : GOk K W t g is) (h' : GsOk K W u gs js) : GsOk K W (gCons t u) (gsC g gs) (is ++ js) := fun fr F H σ ρ ρ' n vs ds Q R hd e k => by
  unfold gsC at e
  split at e
  · cases e
  · cases hd with
    | cons h1 h2 =>
      cases q : g _ ρ with
      | none => rw [q] at e; cases e
      | some ρ1 =>
        rw [q] at e
        exact ⟨_, _, rfl, h fr F H σ ρ ρ1 n _ _ _ R h1 q fun σ' R' w1 => h' fr F H σ' ρ1 ρ' n _ _ Q R' h2 e fun σ2 R2 w2 => k σ2 R2 ((w1.mono fun i hi => List.mem_append_left _ hi).trans (w2.mono fun i hi => List.mem_append_right _ hi))⟩
theorem gs_len {g : GXs} : True := trivial
/-- how many targets -/
def GLen (g : GXs) (m : Nat) : Prop := ∀ ds ρ ρ', g ds ρ = some ρ' → ds.length = m
theorem gl_N : GLen gsN 0 := fun ds ρ ρ' e => by
  unfold gsN at e
  split at e
  · rfl
  · cases e
theorem gl_C {g : GX} {gs : GXs} {m : Nat} (h : GLen gs m) : GLen (gsC g gs) (m + 1) := fun ds ρ ρ' e => by
  unfold gsC at e
  split at e
  · cases e
  · cases q : g _ ρ with
    | none => rw [q] at e; cases e
    | some ρ1 =>
      rw [q] at e
      simp [h _ _ _ e]
theorem q_gT {u : TGs} {gs : GXs} {m : Nat} {is : List Nat} (h : GsOk K W u gs is) (l : GLen gs m) : GOk K W (gTup K m u) (gT gs) is := fun fr F H σ ρ ρ' n v d Q R hd e k => by
  unfold gT at e
  split at e
  · cases hd with
    | tup h1 h2 => exact ⟨_, _, rfl, R.core.sub.sqT h1, by rw [h2.length]; exact l _ _ _ e, h fr F H σ ρ ρ' n _ _ Q R h2 e k⟩
  · cases e
end

/-! ### statements -/
section
variable {X : Cx} {W : Wd}
def sNx : SX := fun ρ => M.pure (.nx ρ)
def sBk : SX := fun ρ => M.pure (.bk ρ)
def sCt : SX := fun ρ => M.pure (.ct ρ)
def sSeq (g h : SX) : SX := fun ρ => M.bind (g ρ) fun o => match o with
  | .nx ρ' => h ρ'
  | .bk ρ' => M.pure (.bk ρ')
  | .ct ρ' => M.pure (.ct ρ')
  | .ret d => M.pure (.ret d)
def sRet (f : EX) : SX := fun ρ => M.bind (f ρ) fun d => M.pure (.ret d)
def sRetN : SX := fun ρ => M.pure (.ret .non)
def sExp (f : EX) : SX := fun ρ => M.bind (f ρ) fun _ => M.pure (.nx ρ)
def sAsg (g : GX) (f : EX) : SX := fun ρ => M.bind (f ρ) fun d => M.bind (M.opt (g d ρ)) fun ρ' => M.pure (.nx ρ')
def sIf (t : TX) (g h : SX) : SX := fun ρ => M.bind (t ρ) fun b => match b with | true => g ρ | false => h ρ
def sNo : SX := fun _ => M.opt none
theorem S_nil : PDSs X W [] sNx := imp_Ss pss_nil fun E σ H ⟨fr, F, ρ, n, o, n', R, e, k⟩ => by
  obtain ⟨h1, h2⟩ := M.pure_ok e
  subst h1 h2
  exact k F H σ R (Sub.refl _)
theorem S_pass {pos : Pos} : PDS X W (.Pass pos) sNx := imp_S ps_pass fun E σ H ⟨fr, F, ρ, n, o, n', R, e, k⟩ => by
  obtain ⟨h1, h2⟩ := M.pure_ok e
  subst h1 h2
  exact k F H σ R (Sub.refl _)
theorem S_break {pos : Pos} : PDS X W (.Break pos) sBk := imp_S ps_break fun E σ H ⟨fr, F, ρ, n, o, n', R, e, k⟩ => by
  obtain ⟨h1, h2⟩ := M.pure_ok e
  subst h1 h2
  exact k F H σ R (Sub.refl _)
theorem S_cont {pos : Pos} : PDS X W (.Continue pos) sCt := imp_S ps_continue fun E σ H ⟨fr, F, ρ, n, o, n', R, e, k⟩ => by
  obtain ⟨h1, h2⟩ := M.pure_ok e
  subst h1 h2
  exact k F H σ R (Sub.refl _)
/-- a statement that is not reached -/
theorem S_no {st : Stmt} : PDS X W st sNo := imp_S ps_never fun E σ H ⟨fr, F, ρ, n, o, n', R, e, k⟩ => by
  obtain ⟨h1, h2⟩ := M.opt_ok e
  cases h1
theorem S_one {st : Stmt} {g : SX} (h : PDS X W st g) : PDSs X W [st] g := pss_one h
theorem S_cons {st : Stmt} {r : List Stmt} {g h : SX} (hg : PDS X W st g) (hh : PDSs X W r h) : PDSs X W (st :: r) (sSeq g h) := imp_Ss (pss_cons hg hh) fun E σ H ⟨fr, F, ρ, n, o, n', R, e, k⟩ => by
  obtain ⟨o1, n1, e1, h⟩ := M.bind_ok e
  refine ⟨fr, F, ρ, n, o1, n1, R, e1, ?_⟩
  cases o1 with
  | nx ρ1 => exact fun F1 H1 σ1 R1 s1 => ⟨fr, F1, ρ1, n1, o, n', R1, h, k.mono s1⟩
  | bk ρ1 =>
    obtain ⟨h1, h2⟩ := M.pure_ok h
    subst h1 h2
    exact k
  | ct ρ1 =>
    obtain ⟨h1, h2⟩ := M.pure_ok h
    subst h1 h2
    exact k
  | ret d =>
    obtain ⟨h1, h2⟩ := M.pure_ok h
    subst h1 h2
    exact k
theorem S_ret {e : Expr} {f : EX} {pos : Pos} (he : PD X W e f) : PDS X W (.Return (some e) pos) (sRet f) := imp_S (ps_ret he) fun E σ H ⟨fr, F, ρ, n, o, n', R, e, k⟩ => by
  obtain ⟨x, n1, e1, h⟩ := M.bind_ok e
  obtain ⟨h1, h2⟩ := M.pure_ok h
  subst h1 h2
  exact ⟨fr, F, ρ, n, x, _, R, e1, fun F1 H1 v R1 s1 d1 => k F1 H1 v R1.core s1 d1⟩
theorem S_retN {pos : Pos} : PDS X W (.Return none pos) sRetN := imp_S ps_retN fun E σ H ⟨fr, F, ρ, n, o, n', R, e, k⟩ => by
  obtain ⟨h1, h2⟩ := M.pure_ok e
  subst h1 h2
  exact k F H _ R.core (Sub.refl _) .non
theorem S_exp {e : Expr} {f : EX} {pos : Pos} (he : PD X W e f) (hs : swapsWith e none pos.line X.env = pure false := by rfl) : PDS X W (.Expr e pos) (sExp f) := imp_S (ps_expr he hs) fun E σ H ⟨fr, F, ρ, n, o, n', R, e, k⟩ => by
  obtain ⟨x, n1, e1, h⟩ := M.bind_ok e
  obtain ⟨h1, h2⟩ := M.pure_ok h
  subst h1 h2
  exact ⟨fr, F, ρ, n, x, _, R, e1, fun F1 H1 v R1 s1 d1 => k F1 H1 σ R1 s1⟩
theorem S_asg {tg e : Expr} {f : EX} {t : TG} {g : GX} {pos : Pos} (he : PD X W e f) (ht : PG X tg t) {is : List Nat} (hg : GOk X.K W t g is) (hs : swapsWithSole [tg] e pos.line X.env = pure false := by rfl) (hw : swappedStores [tg] e X.env = pure none := by rfl)
    (h1 : (assignEach [tg] X.env).map (·.2) = [assign tg X.env] := by rfl) : PDS X W (.Assign [tg] e pos) (sAsg g f) := imp_S (ps_asg he ht hs hw h1) fun E σ H ⟨fr, F, ρ, n, o, n', R, e, k⟩ => by
  obtain ⟨x, n1, e1, ha⟩ := M.bind_ok e
  obtain ⟨ρ', n2, e2, h⟩ := M.bind_ok ha
  obtain ⟨h1, h2⟩ := M.pure_ok h
  obtain ⟨h3, h4⟩ := M.opt_ok e2
  clear ha h
  subst h4
  subst h1 h2
  exact ⟨fr, F, ρ, n, x, _, R, e1, fun F1 H1 v R1 s1 d1 => hg fr F1 H1 σ ρ ρ' _ v x _ R1 d1 h3 fun σ' R' _ => k F1 H1 σ' R' s1⟩
theorem S_if {c : Expr} {a b : List Stmt} {t : TX} {g h : SX} {pos : Pos} (hc : PDT X W c t) (ha : PDSs X W a g) (hb : PDSs X W b h) : PDS X W (.If c a b pos) (sIf t g h) := imp_S (ps_if hc ha hb) fun E σ H ⟨fr, F, ρ, n, o, n', R, e, k⟩ => by
  obtain ⟨b, n1, e1, h⟩ := M.bind_ok e
  refine ⟨fr, F, ρ, n, b, n1, R, e1, fun F1 H1 R1 s1 => ?_⟩
  cases b with
  | true =>
    rw [if_pos rfl]
    exact ⟨fr, F1, ρ, n1, o, n', R1, h, k.mono s1⟩
  | false =>
    rw [if_neg Bool.false_ne_true]
    exact ⟨fr, F1, ρ, n1, o, n', R1, h, k.mono s1⟩
/-- a, b = x, y and a, b, c = x, y, z, all plain locals -/
def sPar (is : List Nat) (f : EXs) : SX := fun ρ => M.bind (f ρ) fun ds => if ds.length = is.length then M.pure (.nx ((is.zip ds).foldl (fun r p => r.set p.1 (.val p.2)) ρ)) else M.opt none
theorem S_par2 {i j : Nat} {x y : Str} {a b : Expr} {f : EXs} {px py pt pos : Pos} {kt k2 pt2} (h : PS X (.Assign [.Tuple [.Name x px, .Name y py] kt pt] (.Tuple [a, b] k2 pt2) pos) (tPar i j (tDs X.K W f))) : PDS X W (.Assign [.Tuple [.Name x px, .Name y py] kt pt] (.Tuple [a, b] k2 pt2) pos) (sPar [i, j] f) := imp_S h fun E σ H ⟨fr, F, ρ, n, o, n', R, e, k⟩ => by
  obtain ⟨ds, n1, e1, h⟩ := M.bind_ok e
  refine ⟨fr, F, ρ, n, ds, n1, R, e1, fun F1 H1 vs R1 s1 d1 => ?_⟩
  split at h
  · obtain ⟨h1, h2⟩ := M.pure_ok h
    subst h1 h2
    cases d1 with
    | nil => simp at *
    | cons q1 d2 =>
      cases d2 with
      | nil => simp at *
      | cons q2 d3 =>
        cases d3 with
        | cons _ _ => simp at *
        | nil => exact ⟨_, _, rfl, k F1 H1 _ ((R1.set q1).set q2) s1⟩
  · cases (M.opt_ok h).1
theorem S_par3 {i j l : Nat} {x y z : Str} {a b c : Expr} {f : EXs} {px py pz pt pos : Pos} {kt k2 pt2} (h : PS X (.Assign [.Tuple [.Name x px, .Name y py, .Name z pz] kt pt] (.Tuple [a, b, c] k2 pt2) pos) (tPar3 i j l (tDs X.K W f))) : PDS X W (.Assign [.Tuple [.Name x px, .Name y py, .Name z pz] kt pt] (.Tuple [a, b, c] k2 pt2) pos) (sPar [i, j, l] f) := imp_S h fun E σ H ⟨fr, F, ρ, n, o, n', R, e, k⟩ => by
  obtain ⟨ds, n1, e1, h⟩ := M.bind_ok e
  refine ⟨fr, F, ρ, n, ds, n1, R, e1, fun F1 H1 vs R1 s1 d1 => ?_⟩
  split at h
  · obtain ⟨h1, h2⟩ := M.pure_ok h
    subst h1 h2
    cases d1 with
    | nil => simp at *
    | cons q1 d2 =>
      cases d2 with
      | nil => simp at *
      | cons q2 d3 =>
        cases d3 with
        | nil => simp at *
        | cons q3 d4 =>
          cases d4 with
          | cons _ _ => simp at *
          | nil => exact ⟨_, _, _, rfl, k F1 H1 _ (((R1.set q1).set q2).set q3) s1⟩
  · cases (M.opt_ok h).1
end

/-! ### loops -/
section
variable {X : Cx} {W : Wd}
/-- an iterator that hands on ds -/
def ItOk (K : PySem.W.Frag) (W : Wd) (dr : Option Addr) (F0 : Hp) (J : It) (ds : List D) : Prop := ∀ (fr : Fr) (F H : Hp) (σ : St) (ρ : Env) (n : Int) (i : Nat), fr.dr = dr → Rel K W fr F H σ ρ n → Sub F0 F →
  (∀ d, ds[i]? = some d → J.go i H ∧ ∀ x H', J.yld i H x H' → ∃ F', Rel K W fr F' H' σ ρ n ∧ Sub F F' ∧ Den K W dr F' x d) ∧ (i = ds.length → J.stop i H)
abbrev IX := Env → M (List D)
def tI (K : PySem.W.Frag) (W : Wd) (f : IX) : TI := fun σ H R => ∃ fr F ρ n ds n', Rel K W fr F H σ ρ n ∧ f ρ n = some (.ok ds, n') ∧
  ∀ F' H' J, Rel K W fr F' H' σ ρ n' → Sub F F' → ItOk K W fr.dr F' J ds → R J H'
abbrev PDI (X : Cx) (W : Wd) (tg e : Expr) (f : IX) : Prop := PI X tg e (tI X.K W f)
theorem imp_I {tg e : Expr} {t t' : TI} (h : PI X tg e t) (k : ∀ σ H R, t' σ H R → t σ H R) : PI X tg e t' := ⟨fun pins s σ H R I q => h.run pins s σ H R I (k σ H R q)⟩
def iSeq (K : PySem.W.Frag) (tl : TE) : TI := fun σ H R => tl σ H fun x H1 => ∃ a, x = .ref a ∧ (((∃ xs, SqL K H1 a xs) ∧ R (Itl K a) H1) ∨ ((∃ xs, SqT K H1 a xs) ∧ R (Itt K a) H1))
theorem pi_seq {tg l : Expr} {tl : TE} (hl : PE X l tl) : PI X tg l (iSeq X.K tl) := by
  refine ⟨fun pins s σ H R I h => ?_⟩
  refine thn (hl.run pins s σ H _ I h) fun v s1 ⟨x, H1, I1, r1, q1⟩ => ?_
  obtain ⟨a, e, q⟩ := q1
  subst e
  cases r1
  rcases q with ⟨⟨xs, hq⟩, q⟩ | ⟨⟨xs, hq⟩, q⟩
  · obtain ⟨its, rv, p, hz⟩ := I1.list hq
    refine wpAny_pyIter_list p.isList ?_
    refine ⟨s1.heap.objs.size, [s1.heap.objs.size], _, _, H1, rfl, I1.kept (t' := s1.toks) fun b o e => Heap.get?_push_of_some _ e, turn_list a _, ⟨_, Heap.get?_push_size _ rfl, rfl, rfl⟩, fun b hb => ?_, q⟩
    have e : b = s1.heap.objs.size := by simpa using hb
    subst e
    exact I1.fpOk (Nat.le_refl _) (I1.hok.fresh (Nat.le_refl _))
  · obtain ⟨its, rv, p, hz⟩ := I1.tuple hq
    refine wpAny_pyIter_tuple (show s1.heap.IsTuple a its.toArray from p) ?_
    refine ⟨s1.heap.objs.size, [s1.heap.objs.size], _, _, H1, rfl, I1.kept (t' := s1.toks) fun b o e => Heap.get?_push_of_some _ e, turn_tuple a _, ⟨_, Heap.get?_push_size _ rfl, rfl, rfl⟩, fun b hb => ?_, q⟩
    have e : b = s1.heap.objs.size := by simpa using hb
    subst e
    exact I1.fpOk (Nat.le_refl _) (I1.hok.fresh (Nat.le_refl _))
def dItems : D → Option (List D)
  | .tup xs => some xs
  | .lst xs => some xs
  | .scr => none
  | _ => none
def iOf (f : EX) : IX := fun ρ => M.bind (f ρ) fun d => M.opt (dItems d)
theorem it_list {K : PySem.W.Frag} {dr : Option Addr} {F0 : Hp} {a : Addr} {vs : List V} {ds : List D} (h : F0 a = some (.lst vs)) (hd : Dens K W dr F0 vs ds) : ItOk K W dr F0 (Itl K a) ds := fun fr F H σ ρ n i edr R s => by
  have hH : H a = some (.lst vs) := R.core.sub _ _ (s _ _ h)
  refine ⟨fun d e => ?_, fun e => ⟨vs, SqL.of hH, by rw [hd.length, e]; exact Nat.le_refl _⟩⟩
  obtain ⟨v, e1, e2⟩ := hd.get e
  refine ⟨⟨vs, v, SqL.of hH, e1⟩, fun x H' ⟨q1, q2⟩ => ?_⟩
  subst q1
  have := q2 vs (SqL.of hH)
  rw [e1] at this
  cases this
  exact ⟨F, R, Sub.refl _, e2.mono s fun _ z => z⟩
theorem it_tup {K : PySem.W.Frag} {dr : Option Addr} {F0 : Hp} {a : Addr} {vs : List V} {ds : List D} (h : SqT K F0 a vs) (hd : Dens K W dr F0 vs ds) : ItOk K W dr F0 (Itt K a) ds := fun fr F H σ ρ n i edr R s => by
  have hH : SqT K H a vs := R.core.sub.sqT (s.sqT h)
  refine ⟨fun d e => ?_, fun e => ⟨vs, hH, by rw [hd.length, e]; exact Nat.le_refl _⟩⟩
  obtain ⟨v, e1, e2⟩ := hd.get e
  refine ⟨⟨vs, v, hH, e1⟩, fun x H' ⟨q1, q2⟩ => ?_⟩
  subst q1
  have := q2 vs hH
  rw [e1] at this
  cases this
  exact ⟨F, R, Sub.refl _, e2.mono s fun _ z => z⟩
theorem i_of {tg l : Expr} {f : EX} (h : PD X W l f) : PDI X W tg l (iOf f) := imp_I (pi_seq h) fun σ H R ⟨fr, F, ρ, n, ds, n', R0, e, k⟩ => by
  obtain ⟨x, n1, e1, h⟩ := M.bind_ok e
  obtain ⟨h1, h2⟩ := M.opt_ok h
  subst h2
  refine ⟨fr, F, ρ, n, x, _, R0, e1, fun F1 H1 v R1 s1 d1 => ?_⟩
  unfold dItems at h1
  split at h1
  · cases h1
    cases d1 with
    | tup q1 q2 => exact ⟨_, rfl, .inr ⟨⟨_, R1.core.sub.sqT q1⟩, k F1 H1 _ R1 s1 (it_tup q1 q2)⟩⟩
  · cases h1
    cases d1 with
    | lst q1 q2 => exact ⟨_, rfl, .inl ⟨⟨_, SqL.of (R1.core.sub _ _ q1)⟩, k F1 H1 _ R1 s1 (it_list q1 q2)⟩⟩
  · cases h1
  · cases h1
/-- range -/
def rngD (lo hi : Int) : List D := (List.range (hi - lo).toNat).map fun i => .int (lo + (i : Nat))
theorem it_rng {K : PySem.W.Frag} {dr : Option Addr} {F0 : Hp} {lo hi : Int} : ItOk K W dr F0 (Itr lo (hi - lo).toNat) (rngD lo hi) := fun fr F H σ ρ n i edr R s => by
  have hl : (rngD lo hi).length = (hi - lo).toNat := by simp [rngD]
  refine ⟨fun d e => ?_, fun e => by show (hi - lo).toNat ≤ i; rw [e, hl]; exact Nat.le_refl _⟩
  have hi' : i < (hi - lo).toNat := by
    have := (List.getElem?_eq_some_iff.mp e).1
    omega
  refine ⟨hi', fun x H' ⟨q1, q2⟩ => ?_⟩
  subst q1 q2
  refine ⟨F, R, Sub.refl _, ?_⟩
  have : d = .int (lo + (i : Nat)) := by
    simp [rngD, hi'] at e
    exact e.symm
  rw [this]
  exact .int _
def small62 (i : Int) : Bool := decide (-(2 ^ 62) ≤ i) && decide (i < 2 ^ 62)
theorem small62_ok {i : Int} (h : small62 i = true) : -(2 ^ 62) ≤ i ∧ i < 2 ^ 62 := by
  unfold small62 at h
  simp only [Bool.and_eq_true, decide_eq_true_eq] at h
  exact h
def dRng1 : List D → Option (List D)
  | [.int j] => if small62 j then some (rngD 0 j) else none
  | _ => none
def dRng2 : List D → Option (List D)
  | [.int i, .int j] => if small62 i && small62 j then some (rngD i j) else none
  | _ => none
def iRng1D (f : EXs) : IX := fun ρ => M.bind (f ρ) fun ds => M.opt (dRng1 ds)
def iRng2D (f : EXs) : IX := fun ρ => M.bind (f ρ) fun ds => M.opt (dRng2 ds)
theorem i_rng1 {tg a : Expr} {f : EXs} {p pos : Pos} (hg : Gl X "range") (hm : X.mg "range" = none) (ha : PDs X W [a] f) (hs : starEach [a] X.env = [(false, eval a X.env)] := by rfl) : PDI X W tg (.Call (.Name "range" p) [a] [] pos) (iRng1D f) := imp_I (pi_range1 hg hm ha hs) fun σ H R ⟨fr, F, ρ, n, ds, n', R0, e, k⟩ => by
  obtain ⟨x, n1, e1, h⟩ := M.bind_ok e
  obtain ⟨h1, h2⟩ := M.opt_ok h
  subst h2
  refine ⟨fr, F, ρ, n, x, _, R0, e1, fun F1 H1 vs R1 s1 d1 => ?_⟩
  unfold dRng1 at h1
  split at h1
  · split at h1
    · rename_i j q
      cases h1
      cases d1 with
      | cons q1 q2 =>
        cases q2; cases q1
        obtain ⟨a1, a2⟩ := small62_ok q
        refine ⟨_, rfl, a1, a2, k F1 H1 _ R1 s1 ?_⟩
        have := it_rng (K := X.K) (W := W) (dr := fr.dr) (F0 := F1) (lo := 0) (hi := j)
        rw [Int.sub_zero] at this
        exact this
    · cases h1
  · cases h1
theorem i_rng2 {tg a b : Expr} {f : EXs} {p pos : Pos} (hg : Gl X "range") (hm : X.mg "range" = none) (ha : PDs X W [a, b] f) (hs : starEach [a, b] X.env = [(false, eval a X.env), (false, eval b X.env)] := by rfl) (hs2 : starEach [b] X.env = [(false, eval b X.env)] := by rfl) : PDI X W tg (.Call (.Name "range" p) [a, b] [] pos) (iRng2D f) := imp_I (pi_range2 hg hm ha hs hs2) fun σ H R ⟨fr, F, ρ, n, ds, n', R0, e, k⟩ => by
  obtain ⟨x, n1, e1, h⟩ := M.bind_ok e
  obtain ⟨h1, h2⟩ := M.opt_ok h
  subst h2
  refine ⟨fr, F, ρ, n, x, _, R0, e1, fun F1 H1 vs R1 s1 d1 => ?_⟩
  unfold dRng2 at h1
  split at h1
  · split at h1
    · rename_i i j q
      cases h1
      rw [Bool.and_eq_true] at q
      cases d1 with
      | cons q1 q2 =>
        cases q2 with
        | cons q3 q4 =>
          cases q4; cases q1; cases q3
          obtain ⟨a1, a2⟩ := small62_ok q.1
          obtain ⟨a3, a4⟩ := small62_ok q.2
          exact ⟨_, _, rfl, ⟨a1, a2, a3, a4⟩, k F1 H1 _ R1 s1 it_rng⟩
    · cases h1
  · cases h1

/-! ### for -/
def forD (g : GX) (body : SX) : List D → SX
  | [] => fun ρ => M.pure (.nx ρ)
  | d :: ds => fun ρ => M.bind (M.opt (g d ρ)) fun ρ1 => M.bind (body ρ1) fun o => match o with
    | .nx ρ2 => forD g body ds ρ2
    | .ct ρ2 => forD g body ds ρ2
    | .bk ρ2 => M.pure (.nx ρ2)
    | .ret d => M.pure (.ret d)
def sFor (g : GX) (it : IX) (body : SX) : SX := fun ρ => M.bind (it ρ) fun ds => forD g body ds ρ
theorem S_for {tg iter : Expr} {b : List Stmt} {t : TG} {g : GX} {it : IX} {body : SX} {pos : Pos} (hp : PassesOwn (model X.prog X.w) X.A X.env X.xe) (hc : X.calm = true) (hi : PDI X W tg iter it) (ht : PG X tg t) {is : List Nat} (hg : GOk X.K W t g is) (hb : PDSs X W b body)
    (hs : ∀ x, foldedSetIterable iter X.env x = pure x := by intro _; rfl) : PDS X W (.For tg iter b [] pos) (sFor g it body) := imp_S (ps_for hp hc hi ht hb hs) fun E σ H ⟨fr, F, ρ, n, o, n', R, e, k⟩ => by
  obtain ⟨ds, n1, e1, h⟩ := M.bind_ok e
  refine ⟨fr, F, ρ, n, ds, n1, R, e1, fun F1 H1 J R1 s1 ok => ?_⟩
  refine ⟨fun i m σ' H' => m = ds.length - i ∧ i ≤ ds.length ∧ ∃ F' ρ' n'', Rel X.K W fr F' H' σ' ρ' n'' ∧ Sub F1 F' ∧ forD g body (ds.drop i) ρ' n'' = some (.ok o, n'), ⟨ds.length, by simp, Nat.zero_le _, F1, ρ, n1, R1, Sub.refl _, h⟩, ?_⟩
  rintro i m σ2 H2 ⟨rfl, hi, F2, ρ2, n2, R2, s2, e2⟩
  by_cases hlt : i < ds.length
  · refine .inr ?_
    rw [List.drop_eq_getElem_cons hlt] at e2
    obtain ⟨ρ3, n3, e3, h3⟩ := M.bind_ok e2
    obtain ⟨e4, e5⟩ := M.opt_ok e3
    subst e5
    obtain ⟨o1, n4, e6, h4⟩ := M.bind_ok h3
    obtain ⟨g1, g2⟩ := (ok fr F2 H2 σ2 ρ2 _ i rfl R2 s2).1 ds[i] (by simp [hlt])
    refine ⟨g1, fun σ' H' => ∃ F' ρ' n'', Rel X.K W fr F' H' σ' ρ' n'' ∧ Sub F1 F' ∧ forD g body (ds.drop (i + 1)) ρ' n'' = some (.ok o, n'), fun σ' H' ⟨F', ρ', n'', a1, a2, a3⟩ => ⟨_, by omega, rfl, hlt, F', ρ', n'', a1, a2, a3⟩, fun x H' y => ?_⟩
    obtain ⟨F3, R3, s3, d3⟩ := g2 x H' y
    refine hg fr F3 H' σ2 ρ2 ρ3 _ x _ _ R3 d3 e4 fun σ3 R4 _ => ?_
    refine ⟨fr, F3, ρ3, _, o1, n4, R4, e6, ?_⟩
    cases o1 with
    | nx ρ5 => exact fun F5 H5 σ5 R5 s5 => ⟨F5, ρ5, n4, R5, (s2.trans s3).trans s5, h4⟩
    | ct ρ5 => exact fun F5 H5 σ5 R5 s5 => ⟨F5, ρ5, n4, R5, (s2.trans s3).trans s5, h4⟩
    | bk ρ5 =>
      obtain ⟨a1, a2⟩ := M.pure_ok h4
      subst a1 a2
      exact fun F5 H5 σ5 R5 s5 => k F5 H5 σ5 R5 ((((s1.trans s2).trans s3)).trans s5)
    | ret d =>
      obtain ⟨a1, a2⟩ := M.pure_ok h4
      subst a1 a2
      exact fun F5 H5 v c5 s5 d5 => k F5 H5 v c5 ((((s1.trans s2).trans s3)).trans s5) d5
  · have ei : i = ds.length := by omega
    refine .inl ⟨(ok fr F2 H2 σ2 ρ2 _ i rfl R2 s2).2 ei, ?_⟩
    rw [ei, List.drop_length] at e2
    obtain ⟨a1, a2⟩ := M.pure_ok e2
    subst a1 a2
    exact k F2 H2 σ2 R2 (s1.trans s2)

/-! ### while, with so many turns at most -/
def whileD (t : TX) (body : SX) : Nat → SX
  | 0 => fun _ => M.opt none
  | m + 1 => fun ρ => M.bind (t ρ) fun b => match b with
    | false => M.pure (.nx ρ)
    | true => M.bind (body ρ) fun o => match o with
      | .nx ρ2 => whileD t body m ρ2
      | .ct ρ2 => whileD t body m ρ2
      | .bk ρ2 => M.pure (.nx ρ2)
      | .ret d => M.pure (.ret d)
def sWhile (m : Env → Nat) (t : TX) (body : SX) : SX := fun ρ => whileD t body (m ρ) ρ
theorem S_while {c : Expr} {b : List Stmt} {t : TX} {body : SX} {pos : Pos} (m : Env → Nat) (hp : PassesOwn (model X.prog X.w) X.A X.env X.xe) (hc : PDT X W c t) (hb : PDSs X W b body) : PDS X W (.While c b [] pos) (sWhile m t body) := imp_S (ps_while hp hc hb) fun E σ H ⟨fr, F, ρ, n, o, n', R, e, k⟩ => by
  refine ⟨fun j σ' H' => ∃ F' ρ' n'', Rel X.K W fr F' H' σ' ρ' n'' ∧ Sub F F' ∧ whileD t body j ρ' n'' = some (.ok o, n'), ⟨m ρ, F, ρ, n, R, Sub.refl _, e⟩, ?_⟩
  rintro j σ1 H1 ⟨F1, ρ1, n1, R1, s1, e1⟩
  cases j with
  | zero =>
    rw [whileD] at e1
    cases (M.opt_ok e1).1
  | succ j =>
    obtain ⟨bb, n2, e2, h2⟩ := M.bind_ok e1
    refine ⟨fr, F1, ρ1, n1, bb, n2, R1, e2, fun F2 H2 R2 s2 => ?_⟩
    cases bb with
    | false =>
      obtain ⟨a1, a2⟩ := M.pure_ok h2
      subst a1 a2
      rw [if_neg Bool.false_ne_true]
      exact k F2 H2 σ1 R2 (s1.trans s2)
    | true =>
      obtain ⟨o1, n4, e6, h4⟩ := M.bind_ok h2
      rw [if_pos rfl]
      refine ⟨fun σ' H' => ∃ F' ρ' n'', Rel X.K W fr F' H' σ' ρ' n'' ∧ Sub F F' ∧ whileD t body j ρ' n'' = some (.ok o, n'), fun σ' H' q => ⟨j, Nat.lt_succ_self _, q⟩, ?_⟩
      refine ⟨fr, F2, ρ1, n2, o1, n4, R2, e6, ?_⟩
      cases o1 with
      | nx ρ5 => exact fun F5 H5 σ5 R5 s5 => ⟨F5, ρ5, n4, R5, (s1.trans s2).trans s5, h4⟩
      | ct ρ5 => exact fun F5 H5 σ5 R5 s5 => ⟨F5, ρ5, n4, R5, (s1.trans s2).trans s5, h4⟩
      | bk ρ5 =>
        obtain ⟨a1, a2⟩ := M.pure_ok h4
        subst a1 a2
        exact fun F5 H5 σ5 R5 s5 => k F5 H5 σ5 R5 ((s1.trans s2).trans s5)
      | ret d =>
        obtain ⟨a1, a2⟩ := M.pure_ok h4
        subst a1 a2
        exact fun F5 H5 v c5 s5 d5 => k F5 H5 v c5 ((s1.trans s2).trans s5) d5

/-! ### comprehensions -/
def wipeD (ρ : Env) : List Nat → Env
  | [] => ρ
  | v :: vs => (wipeD ρ vs).set v .no
theorem wipeD_length (ρ : Env) : ∀ vs, (wipeD ρ vs).length = ρ.length
  | [] => rfl
  | v :: vs => by unfold wipeD; rw [List.length_set, wipeD_length ρ vs]
theorem Rel.wipe1 {K : PySem.W.Frag} {fr : Fr} {F H : Hp} {σ : St} {ρ : Env} {n : Int} (r : Rel K W fr F H σ ρ n) (i : Nat) : Rel K W fr F H (σ.set i none) (ρ.set i .no) n := by
  obtain ⟨ad, s⟩ := r.slots
  have nd : ∀ {j : Nat} {e : Sl}, e ≠ .no → (ρ.set i Sl.no)[j]? = some e → i ≠ j ∧ ρ[j]? = some e := fun {j e} ne q => by
    by_cases hj : i = j
    · subst hj
      by_cases hi : i < ρ.length
      · rw [get_set_self hi] at q; cases q; exact absurd rfl ne
      · rw [List.getElem?_eq_none (by simpa using hi)] at q; cases q
    · rw [List.getElem?_set_ne hj] at q; exact ⟨hj, q⟩
  refine ⟨r.core, ad, by simp [s.len], fun j e q => ?_, fun j e q => ?_, fun j k e e' q q' => ?_⟩
  · obtain ⟨hj, q⟩ := nd (by simp) q
    obtain ⟨v, h1, h2⟩ := s.val j e q
    exact ⟨v, by rw [List.getElem?_set_ne hj]; exact h1, h2⟩
  · obtain ⟨hj, q⟩ := nd (by simp) q
    obtain ⟨h1, h2⟩ := s.own j e q
    exact ⟨by rw [List.getElem?_set_ne hj]; exact h1, h2⟩
  · exact s.inj j k e e' (nd (by simp) q).2 (nd (by simp) q').2
theorem Rel.wipe {K : PySem.W.Frag} {fr : Fr} {F H : Hp} {σ : St} {ρ : Env} {n : Int} (r : Rel K W fr F H σ ρ n) : ∀ vs, Rel K W fr F H (wipe σ vs) (wipeD ρ vs) n
  | [] => r
  | v :: vs => by unfold L2.wipe wipeD; exact (Rel.wipe r vs).wipe1 v
/-- one's own, out of sight -/
def hide : Env → Env
  | [] => []
  | .own _ :: r => .no :: hide r
  | .no :: r => .no :: hide r
  | .val d :: r => .val d :: hide r
theorem hide_length : ∀ ρ : Env, (hide ρ).length = ρ.length
  | [] => rfl
  | .own _ :: r => by simp [hide, hide_length r]
  | .no :: r => by simp [hide, hide_length r]
  | .val _ :: r => by simp [hide, hide_length r]
theorem hide_get : ∀ (ρ : Env) (i : Nat) (e : Sl), (hide ρ)[i]? = some e → e ≠ .no → ρ[i]? = some e ∧ ∃ d, e = .val d
  | [], _, _, h, _ => by simp [hide] at h
  | .own d :: r, 0, e, h, ne => by simp [hide] at h; exact absurd h.symm ne
  | .no :: r, 0, e, h, ne => by simp [hide] at h; exact absurd h.symm ne
  | .val d :: r, 0, e, h, ne => by simp [hide] at h; exact ⟨by simp [h], d, h.symm⟩
  | .own d :: r, i + 1, e, h, ne => by simp [hide] at h; simpa using hide_get r i e h ne
  | .no :: r, i + 1, e, h, ne => by simp [hide] at h; simpa using hide_get r i e h ne
  | .val d :: r, i + 1, e, h, ne => by simp [hide] at h; simpa using hide_get r i e h ne
/-- a new run from here, with what is one's own out of sight -/
theorem Rel.inner {K : PySem.W.Frag} {fr : Fr} {F H : Hp} {σ : St} {ρ : Env} {n : Int} (r : Rel K W fr F H σ ρ n) : Rel K W (fr.at F H) F H σ (hide ρ) n := by
  obtain ⟨ad, s⟩ := r.slots
  refine ⟨r.core.at, ad, by rw [hide_length]; exact s.len, fun j e q => ?_, fun j e q => ?_, fun j k e e' q q' => ?_⟩
  · exact s.val j e (hide_get ρ j _ q (by simp)).1
  · obtain ⟨d, hd⟩ := (hide_get ρ j _ q (by simp)).2
    cases hd
  · obtain ⟨d, hd⟩ := (hide_get ρ j _ q (by simp)).2
    cases hd
/-- D is no one's own -/
def NoOwn (p : Addr) (σ : St) (ρ : Env) : Prop := ∀ (i : Nat) (d : D), ρ[i]? = some (Sl.own d) → σ[i]? ≠ some (some (.ref p))
theorem Rel.noOwn {K : PySem.W.Frag} {fr : Fr} {F H : Hp} {σ : St} {ρ : Env} {n : Int} (r : Rel K W fr F H σ ρ n) {p : Addr} (hp : H p = none) : NoOwn p σ ρ := fun i d e q => by
  obtain ⟨ad, s⟩ := r.slots
  obtain ⟨h1, _, _, _, h5, _⟩ := s.own i d e
  obtain ⟨o, ho⟩ := h5.there
  rw [h1] at q
  cases q
  rw [hp] at ho; cases ho
theorem Rel.other {K : PySem.W.Frag} {fr : Fr} {F H : Hp} {σ : St} {ρ : Env} {n : Int} (r : Rel K W fr F H σ ρ n) {p : Addr} {o : HO} (h1 : F p = none) (h2 : fr.H0 p = none) (h3 : fr.dr ≠ some p) (h4 : NoOwn p σ ρ) : Rel K W fr F (upd H p o) σ ρ n := by
  obtain ⟨ad, s⟩ := r.slots
  have c := r.core
  refine ⟨?_, ad, s.len, s.val, fun j e q => ?_, s.inj⟩
  · exact {
      sub := fun a u q => by rw [upd_ne (ne_of_none q h1)]; exact c.sub _ _ q
      base := fun a u q q2 q3 => by rw [upd_ne (ne_of_none q h2)]; exact c.base a u q q2 q3
      f0 := c.f0
      new := c.new
      there := fun a u q => by rw [upd_ne (ne_of_none q h2)]; exact c.there a u q
      draw := fun a e => by
        obtain ⟨q1, q2, q3⟩ := c.draw a e
        have ne : a ≠ p := fun z => h3 (by rw [← z]; exact e)
        exact ⟨q1, by rw [upd_ne ne]; exact q2, q3⟩ }
  · obtain ⟨q1, q2, q3, q4, q5, q6⟩ := s.own j e q
    have ne : ad j ≠ p := fun z => h4 j e q (by rw [q1, z])
    exact ⟨q1, q2, q3, q4, q5.mono (Sub.refl _) (fun u z => by rw [upd_ne ne]; exact z), q6⟩
theorem Rel.addF {K : PySem.W.Frag} {fr : Fr} {F H : Hp} {σ : St} {ρ : Env} {n : Int} (r : Rel K W fr F H σ ρ n) {p : Addr} {o : HO} (h0 : H p = some o) (h1 : F p = none) (h2 : fr.H0 p = none) (h3 : fr.dr ≠ some p) (h4 : NoOwn p σ ρ) : Sub F (upd F p o) ∧ Rel K W fr (upd F p o) H σ ρ n := by
  obtain ⟨ad, s⟩ := r.slots
  have c := r.core
  have up : Sub F (upd F p o) := fun a u q => by rw [upd_ne (ne_of_none q h1)]; exact q
  refine ⟨up, ?_, ad, s.len, fun j e q => ?_, fun j e q => ?_, s.inj⟩
  · exact {
      sub := fun a u q => by
        by_cases e : a = p
        · rw [e, upd_same] at q; rw [e, h0]; exact q
        · rw [upd_ne e] at q; exact c.sub _ _ q
      base := c.base
      f0 := c.f0.trans up
      new := fun a u q q2 => by rw [upd_ne (ne_of_none q h2)]; exact c.new a u q q2
      there := c.there
      draw := fun a e => by
        obtain ⟨q1, q2, q3⟩ := c.draw a e
        have ne : a ≠ p := fun z => h3 (by rw [← z]; exact e)
        exact ⟨by rw [upd_ne ne]; exact q1, q2, up.sqL q3⟩ }
  · obtain ⟨v, q1, q2⟩ := s.val j e q
    exact ⟨v, q1, q2.mono up fun _ z => z⟩
  · obtain ⟨q1, q2, q3, q4, q5, q6⟩ := s.own j e q
    have ne : ad j ≠ p := fun z => h4 j e q (by rw [q1, z])
    exact ⟨q1, by rw [upd_ne ne]; exact q2, q3, q4, q5.mono up fun _ z => z, q6⟩

def compD (body : D → M (Option D)) : List D → M (List D)
  | [] => M.pure []
  | d :: ds => M.bind (body d) fun y => M.bind (compD body ds) fun ys => M.pure (match y with | some z => z :: ys | none => ys)
def compB (vs : List Nat) (g : GX) (t : TX) (f : EX) (ρ : Env) (d : D) : M (Option D) := M.bind (M.opt (g d (hide (wipeD ρ vs)))) fun ρ1 => M.bind (t ρ1) fun b => match b with
  | true => M.bind (f ρ1) fun y => M.pure (some y)
  | false => M.pure none
def eComp (vs : List Nat) (g : GX) (it : IX) (t : TX) (f : EX) : EX := fun ρ => M.bind (it ρ) fun ds => M.bind (compD (compB vs g t f ρ) ds) fun ys => M.opt (mkLst ys)
def tYesD : TX := fun _ => M.pure true
theorem ts_nil : PTs X [] (tT X.K W tYesD) := by
  refine ⟨fun pins s σ H Q I ⟨fr, F, ρ, n, b, n', R, e, k⟩ => ?_⟩
  obtain ⟨h1, h2⟩ := M.pure_ok e
  subst h1 h2
  exact pts_nil.run pins s σ H Q I (k F H R (Sub.refl _))
theorem ts_one {c : Expr} {t : TX} (h : PDT X W c t) : PTs X [c] (tT X.K W t) := pts_one h
theorem d_tLc {K : PySem.W.Frag} {vs : List Nat} {tg : TG} {g : GX} {is : List Nat} {it : IX} {t : TX} {f : EX} (hg : GOk K W tg g is) (hv : ∀ i ∈ is, i ∈ vs) {σ : St} {H : Hp} {Q : VK} (h : tD K W (eComp vs g it t f) σ H Q) : tLc (tI K W it) tg (tT K W t) (tD K W f) vs σ H Q := by
  obtain ⟨fr, F, ρ, n, d, n', R, e, k⟩ := h
  obtain ⟨ds, n1, e1, ha⟩ := M.bind_ok e
  obtain ⟨zs, n2, e2, hb⟩ := M.bind_ok ha
  obtain ⟨e3, e4⟩ := M.opt_ok hb
  obtain ⟨e5, hz⟩ := mkLst_ok e3
  clear ha hb e3
  subst e4 e5
  refine ⟨fr, F, ρ, n, ds, n1, R, e1, fun F1 H1 J R1 s1 ok => fun p hp => ?_⟩
  refine ⟨fun i m H' => m = ds.length - i ∧ i ≤ ds.length ∧ ∃ F' n'' acc dacc ys, Rel K W fr F' H' σ ρ n'' ∧ Sub F1 F' ∧ F' p = none ∧ H' p = some (.lst acc) ∧ Dens K W fr.dr F' acc dacc ∧ compD (compB vs g t f ρ) (ds.drop i) n'' = some (.ok ys, n') ∧ zs = dacc ++ ys,
    ⟨ds.length, by simp, Nat.zero_le _, F1, n1, [], [], zs, ?_, Sub.refl _, R1.core.noF hp, upd_same, .nil, e2, rfl⟩, ?_⟩
  · exact R1.other (R1.core.noF hp) (R1.core.noH0 hp) (R1.core.ndr hp) (R1.noOwn hp)
  have hH0 := R1.core.noH0 hp
  have hdr := R1.core.ndr hp
  have hno := R1.noOwn hp
  rintro i m H2 ⟨rfl, hi, F2, m2, acc, dacc, ys, R2, s2, f2, a2, d2, c2, q2⟩
  have RI : Rel K W (fr.at F2 H2) F2 H2 (wipe σ vs) (hide (wipeD ρ vs)) m2 := (R2.wipe vs).inner
  by_cases hlt : i < ds.length
  · refine .inr ?_
    rw [List.drop_eq_getElem_cons hlt] at c2
    obtain ⟨y, n3, c3, hc⟩ := M.bind_ok c2
    obtain ⟨yr, n4, c4, hd⟩ := M.bind_ok hc
    obtain ⟨c5, c6⟩ := M.pure_ok hd
    clear hc hd
    subst c6
    obtain ⟨ρ1, n5, b1, hb1⟩ := M.bind_ok c3
    obtain ⟨b2, b3⟩ := M.opt_ok b1
    obtain ⟨b, n6, b4, hb2⟩ := M.bind_ok hb1
    clear hb1 b1 c3
    subst b3
    obtain ⟨g1, g2⟩ := (ok (fr.at F2 H2) F2 H2 _ _ _ i rfl RI s2).1 ds[i] (by simp [hlt])
    refine ⟨g1, fun H' => ∃ F' n'' acc dacc ys, Rel K W fr F' H' σ ρ n'' ∧ Sub F1 F' ∧ F' p = none ∧ H' p = some (.lst acc) ∧ Dens K W fr.dr F' acc dacc ∧ compD (compB vs g t f ρ) (ds.drop (i + 1)) n'' = some (.ok ys, _) ∧ zs = dacc ++ ys, fun H' q => ⟨_, by omega, rfl, hlt, q⟩, fun x H' yl => ?_⟩
    obtain ⟨F3, R3, s3, d3⟩ := g2 x H' yl
    refine hg (fr.at F2 H2) F3 H' _ _ ρ1 _ x _ _ R3 d3 b2 fun σ3 R4 w4 => ⟨(w4 vs hv).trans (wipe_wipe σ vs), ?_⟩
    refine ⟨fr.at F2 H2, F3, ρ1, _, b, n6, R4, b4, fun F5 H5 R5 s5 => ?_⟩
    cases b with
    | true =>
      rw [if_pos rfl]
      obtain ⟨z, n7, b5, hb3⟩ := M.bind_ok hb2
      obtain ⟨b6, b7⟩ := M.pure_ok hb3
      clear hb2 hb3
      subst b6 b7
      refine ⟨fr.at F2 H2, F5, ρ1, n6, z, _, R5, b5, fun F6 H6 v R6 s6 d6 => ?_⟩
      have a6 : H6 p = some (.lst acc) := R6.core.base p _ a2 hdr fun z => z
      have f6 : F6 p = none := R6.core.new p _ a2 f2
      have s26 : Sub F2 F6 := R6.core.f0
      refine ⟨acc, a6, ?_, F6, _, acc ++ [v], dacc ++ [z], yr, (R2.back R6.core).other f6 hH0 hdr hno, s2.trans s26, f6, upd_same, (d2.mono s26 fun _ z => z).append (.cons d6 .nil), c4, ?_⟩
      · have l1 := d2.length
        have l2 : zs.length = dacc.length + ys.length := by rw [q2, List.length_append]
        have l3 : ys.length = yr.length + 1 := by rw [← c5]; simp
        omega
      · rw [q2, ← c5]; simp
    | false =>
      rw [if_neg Bool.false_ne_true]
      obtain ⟨b6, b7⟩ := M.pure_ok hb2
      clear hb2
      subst b6 b7
      have a6 : H5 p = some (.lst acc) := R5.core.base p _ a2 hdr fun z => z
      have f6 : F5 p = none := R5.core.new p _ a2 f2
      have s26 : Sub F2 F5 := R5.core.f0
      exact ⟨F5, _, acc, dacc, yr, R2.back R5.core, s2.trans s26, f6, a6, d2.mono s26 fun _ z => z, c4, by rw [q2, ← c5]⟩
  · have ei : i = ds.length := by omega
    refine .inl ⟨(ok (fr.at F2 H2) F2 H2 _ _ _ i rfl RI s2).2 ei, ?_⟩
    rw [ei, List.drop_length] at c2
    obtain ⟨a1, a3⟩ := M.pure_ok c2
    subst a1 a3
    obtain ⟨u1, R7⟩ := R2.addF a2 f2 hH0 hdr hno
    exact k _ H2 _ R7 ((s1.trans s2).trans u1) (.lst upd_same (by rw [q2, List.append_nil]; exact d2.mono u1 fun _ z => z))
/-- [elt for tg in iter if ..] -/
theorem d_comp {vs : List Nat} {elt tg iter : Expr} {ifs : List Expr} {scope : Scope} {own : List (Str × Nat)} {pos : Pos} {t : TG} {g : GX} {is : List Nat} {it : IX} {tt : TX} {f : EX} (hc : X.calm = true) (hN : X.N.Nodup) (hi : PDI X W tg iter it) (ok : BlkOk X.N X.env.scope scope own)
    (hg : ∀ (s : Shared) (H : Hp) (C : Addr) (cl : List (Str × Addr)) (fp : List Addr), PG (X.blk s H scope (compEnvC scope cl C X.env) fp) tg t) (hq : GOk X.K W t g is) (hv : ∀ i ∈ is, i ∈ vs)
    (ht : ∀ (s : Shared) (H : Hp) (C : Addr) (cl : List (Str × Addr)) (fp : List Addr), PTs (X.blk s H scope (compEnvC scope cl C X.env) fp) ifs (tT X.K W tt))
    (he : ∀ (s : Shared) (H : Hp) (C : Addr) (cl : List (Str × Addr)) (fp : List Addr), PE (X.blk s H scope (compEnvC scope cl C X.env) fp) elt (tD X.K W f)) (hs : ∀ x, foldedSetIterable iter X.env x = pure x := by intro _; rfl) (hvs : own.map (·.2) = vs := by rfl) :
    PD X W (.ListComp elt [⟨tg, iter, ifs, 0⟩] scope pos) (eComp vs g it tt f) := by
  subst hvs
  exact imp_E (pe_lc hc hN hi ok hg ht he hs) fun _ _ _ h => d_tLc hq hv h
/-- y = [elt for ..], one line -/
theorem S_setComp {vs : List Nat} {i : Nat} {y : Str} {py : Pos} {elt tg iter : Expr} {ifs : List Expr} {scope : Scope} {own : List (Str × Nat)} {pos spos : Pos} {t : TG} {g : GX} {is : List Nat} {it : IX} {tt : TX} {f : EX} (hc : X.calm = true) (hN : X.N.Nodup) (hy : X.N[i]? = some y) (hyl : X.env.scope.names.lookup y = some .local)
    (hsw : swapsWith (.ListComp elt [⟨tg, iter, ifs, 0⟩] scope pos) (some (.Name y py)) spos.line X.env = pure true) (hi : PDI X W tg iter it) (ok : BlkOk X.N X.env.scope scope own)
    (hg : ∀ (s : Shared) (H : Hp) (C : Addr) (cl : List (Str × Addr)) (fp : List Addr), PG (X.blk s H scope (compEnvC scope cl C X.env) fp) tg t) (hq : GOk X.K W t g is) (hv : ∀ i ∈ is, i ∈ vs)
    (ht : ∀ (s : Shared) (H : Hp) (C : Addr) (cl : List (Str × Addr)) (fp : List Addr), PTs (X.blk s H scope (compEnvC scope cl C X.env) fp) ifs (tT X.K W tt))
    (he : ∀ (s : Shared) (H : Hp) (C : Addr) (cl : List (Str × Addr)) (fp : List Addr), PE (X.blk s H scope (compEnvC scope cl C X.env) fp) elt (tD X.K W f)) (hs : ∀ x, foldedSetIterable iter X.env x = pure x := by intro _; rfl) (hvs : own.map (·.2) = vs := by rfl) :
    PDS X W (.Assign [.Name y py] (.ListComp elt [⟨tg, iter, ifs, 0⟩] scope pos) spos) (sAsg (gV i) (eComp vs g it tt f)) := by
  subst hvs
  refine imp_S (ps_setLc hc hN hy hyl hsw hi ok hg ht he hs) fun E σ H ⟨fr, F, ρ, n, o, n', R, e, k⟩ => ?_
  obtain ⟨x, n1, e1, ha⟩ := M.bind_ok e
  obtain ⟨ρ', n2, e2, h⟩ := M.bind_ok ha
  obtain ⟨h1, h2⟩ := M.pure_ok h
  obtain ⟨h3, h4⟩ := M.opt_ok e2
  clear ha h
  subst h4
  subst h1 h2
  refine d_tLc hq hv ⟨fr, F, ρ, n, x, _, R, e1, fun F1 H1 v R1 s1 d1 => ?_⟩
  cases h3
  exact k F1 H1 _ (R1.set d1) s1
end
end DL
end

section
set_option Elab.async false
set_option linter.all false
set_option autoImplicit false
set_option maxRecDepth 100000
namespace DL
open PySem PySem.Spec L2
open PyProof.Rows (envOfC)

/-! ### what a def promises -/
abbrev FX := List D → M D
/-- nothing is raised -/
def spD (K : PySem.W.Frag) (W : Wd) (f : FX) (m : Nat) : Sp := fun vs H Q _ => vs.length = m ∧ ∃ fr F n ds d n', Core K W fr F H n ∧ Dens K W fr.dr F vs ds ∧ f ds n = some (.ok d, n') ∧
  ∀ F' H' v, Core K W (fr.at F H) F' H' n' → Den K W fr.dr F' v d → Q v H'
/-- a body as a function: N names, P parameters -/
def runD (N P : Nat) (g : SX) : FX := fun ds => M.bind (g (ds.map Sl.val ++ List.replicate (N - P) Sl.no)) fun o => match o with
  | .ret d => M.pure d
  | .nx _ => M.pure .non
  | _ => M.opt none
theorem start_rel {K : PySem.W.Frag} {W : Wd} {fr : Fr} {F H : Hp} {n : Int} {N : List Str} {P : Nat} {vs : List V} {ds : List D} (c : Core K W fr F H n) (d : Dens K W fr.dr F vs ds) (hl : vs.length = P) :
    Rel K W (fr.at F H) F H (L2.start N vs) (ds.map Sl.val ++ List.replicate (N.length - P) Sl.no) n := by
  have key : ∀ (i : Nat) (e : Sl), (ds.map Sl.val ++ List.replicate (N.length - P) Sl.no)[i]? = some e → e ≠ .no → ∃ d, ds[i]? = some d ∧ e = .val d := fun i e q ne => by
    by_cases hi : i < ds.length
    · rw [List.getElem?_append_left (by simpa using hi), List.getElem?_map] at q
      cases z : ds[i]? with
      | none => rw [z] at q; cases q
      | some d' => rw [z] at q; cases q; exact ⟨d', rfl, rfl⟩
    · rw [List.getElem?_append_right (by simpa using hi)] at q
      have := List.mem_of_getElem? q
      rw [List.mem_replicate] at this
      exact absurd this.2 ne
  refine ⟨c.at, fun _ => 0, ?_, fun i e q => ?_, fun i e q => ?_, fun i j e e' q q' => ?_⟩
  · unfold L2.start; simp [d.length, ← hl]
  · obtain ⟨d', h1, h2⟩ := key i _ q (by simp)
    cases h2
    obtain ⟨v, h3, h4⟩ := d.get h1
    refine ⟨v, ?_, h4⟩
    unfold L2.start
    have hi := (List.getElem?_eq_some_iff.mp h3).1
    rw [List.getElem?_append_left (by simpa using hi), List.getElem?_map, h3]; rfl
  · obtain ⟨d', h1, h2⟩ := key i _ q (by simp)
    cases h2
  · obtain ⟨d', h1, h2⟩ := key i _ q (by simp)
    cases h2
section
variable {P : Program} {w : World} {K : PySem.W.Frag} {mg : Str → Option Value} {base : Heap} {W : Wd}
theorem okD {x qual : Str} {st : Stmt} {f : Addr} {fd : FuncData} {N ps : List Str} {k : Nat} {g : SX} (F : Fun K x qual st f fd) (S : FnScope N ps (defScope st))
    (body : ∀ (cdv : Value) (A : Around) (outer : List PySem.Env) (s : Shared) (H : Hp) (E : XK), Room k (A.deeper (envOfC qual (defScope st) s.heap.objs.size f cdv)) → PSs (cxOf CX0 P w K mg base N qual (defScope st) f cdv A outer s H E).nox (defBody st) (tS K W g)) :
    FnOk P w K mg base CX0 (k + 1) f fd ps (spD K W (runD N.length ps.length g) ps.length) := by
  refine F.ok S (fun vs H Q E h => h.1) fun cdv A outer s H vs Q E hr h => ?_
  obtain ⟨hl, fr, F0, n, ds, d, n', c, dd, e, k⟩ := h
  refine ⟨_, body cdv A outer s H E hr, ?_⟩
  obtain ⟨o, n1, e1, h1⟩ := M.bind_ok e
  refine ⟨fr.at F0 H, F0, _, n, o, n1, start_rel c dd hl, e1, ?_⟩
  cases o with
  | ret d' =>
    obtain ⟨a1, a2⟩ := M.pure_ok h1
    subst a1 a2
    exact fun F' H' v c' s' d' => k F' H' v c' d'
  | nx ρ =>
    obtain ⟨a1, a2⟩ := M.pure_ok h1
    subst a1 a2
    exact fun F' H' σ' R' s' => k F' H' _ R'.core .non
  | bk ρ => cases (M.opt_ok h1).1
  | ct ρ => cases (M.opt_ok h1).1
end

/-! ### calls -/
section
variable {X : Cx} {W : Wd} {k : Nat} {f C : Addr} {fd : FuncData} {ps : List Str} {x m : Str} {p pos apos : Pos} {e o : Expr} {es : List Expr}
def eCall (fx : FX) (fs : EXs) : EX := fun ρ => M.bind (fs ρ) fx
theorem tCall_of {K : PySem.W.Frag} {fx : FX} {fs : EXs} {mm : Nat} {E : XK} (hm : ∀ ρ n ds n', fs ρ n = some (.ok ds, n') → ds.length = mm) {σ : St} {H : Hp} {Q : VK} (h : tD K W (eCall fx fs) σ H Q) : tCall (spD K W fx mm) [] E (tDs K W fs) σ H Q := by
  obtain ⟨fr, F, ρ, n, d, n', R, e, k⟩ := h
  obtain ⟨ds, n1, e1, h1⟩ := M.bind_ok e
  refine ⟨fr, F, ρ, n, ds, n1, R, e1, fun F1 H1 vs R1 s1 d1 => ?_⟩
  show spD K W fx mm (vs ++ []) H1 Q E
  rw [List.append_nil]
  exact ⟨by rw [d1.length]; exact hm _ _ _ _ e1, fr, F1, n1, ds, d, n', R1.core, d1, h1, fun F2 H2 v c2 d2 => k F2 H2 v (R1.back c2) (s1.trans c2.f0) d2⟩
theorem al_nil (ρ : Env) (n : Int) (ds : List D) (n' : Int) (h : eNil ρ n = some (.ok ds, n')) : ds.length = 0 := by
  obtain ⟨a, b⟩ := M.pure_ok h
  subst a; rfl
theorem al_cons {g : EX} {fs : EXs} {mm : Nat} (hm : ∀ ρ n ds n', fs ρ n = some (.ok ds, n') → ds.length = mm) (ρ : Env) (n : Int) (ds : List D) (n' : Int) (h : eCons g fs ρ n = some (.ok ds, n')) : ds.length = mm + 1 := by
  obtain ⟨d, n1, e1, h1⟩ := M.bind_ok h
  obtain ⟨r, n2, e2, h2⟩ := M.bind_ok h1
  obtain ⟨a, b⟩ := M.pure_ok h2
  subst a
  simp [hm _ _ _ _ e2]
theorem d_call {fx : FX} {fs : EXs} {mm : Nat} (F : FnOk X.prog X.w X.K X.mg X.base CX0 k f fd ps (spD X.K W fx mm)) (hr : Room k X.A) (hg : Gl X x) (hm : X.mg x = some (.ref f)) (hk : PySem.W.keepIn X.K (.ref f) = true) (hb : Binds X.K fd ps [])
    (ha : PDs X W (e :: es) fs) (hl : ∀ ρ n ds n', fs ρ n = some (.ok ds, n') → ds.length = mm) (hdb : (x == ("__debug__" : Str)) = false := by decide) (he : starEach (e :: es) X.env = (false, eval e X.env) :: starEach es X.env := by rfl) (hpl : (backTo pos (starEach es X.env)).any (·.1) = false := by rfl) :
    PD X W (.Call (.Name x p) (e :: es) [] pos) (eCall fx fs) := imp_E (pe_call (E := E0) F hr hg hm hk hb .nil pass0 ha hdb he hpl) fun _ _ _ h => tCall_of hl h
theorem d_call0 {fx : FX} (F : FnOk X.prog X.w X.K X.mg X.base CX0 k f fd ps (spD X.K W fx 0)) (hr : Room k X.A) (hg : Gl X x) (hm : X.mg x = some (.ref f)) (hk : PySem.W.keepIn X.K (.ref f) = true) (hb : Binds X.K fd ps []) (hdb : (x == ("__debug__" : Str)) = false := by decide) :
    PD X W (.Call (.Name x p) [] [] pos) (eCall fx eNil) := imp_E (pe_call0 (E := E0) F hr hg hm hk hb .nil pass0 hdb) fun σ H Q h => by
  obtain ⟨fr, F, ρ, n, d, n', R, e, k⟩ := h
  obtain ⟨ds, n1, e1, h1⟩ := M.bind_ok e
  obtain ⟨a, b⟩ := M.pure_ok e1
  subst a b
  exact ⟨rfl, fr, F, _, [], d, n', R.core, .nil, h1, fun F2 H2 v c2 d2 => k F2 H2 v (R.back c2) c2.f0 d2⟩

/-! ### built-ins called by name -/
theorem d_B {r : List V → Hp → VK → Prop} {op : List D → Option D} {id : String} {fs : EXs} (hc : CallR X (.builtin id) r) (hd : CallD X.K W r op) (hg : Gl X x) (hm : X.mg x = none) (hv : bootBuiltins x = some (.builtin id)) (ha : PDs X W (e :: es) fs) (hn : x ≠ "__name__" := by decide) (hdb : (x == ("__debug__" : Str)) = false := by decide)
    (he : starEach (e :: es) X.env = (false, eval e X.env) :: starEach es X.env := by rfl) (hpl : (backTo pos (starEach es X.env)).any (·.1) = false := by rfl) : PD X W (.Call (.Name x p) (e :: es) [] pos) (eB op fs) := imp_E (pe_callB hc hg hm hv ha hn hdb he hpl) fun _ _ _ h => tCB_of hd h
theorem d_Ty {r : List V → Hp → VK → Prop} {op : List D → Option D} {T : String} {fs : EXs} (hc : CallR X (.type T) r) (hd : CallD X.K W r op) (hg : Gl X x) (hm : X.mg x = none) (hv : bootBuiltins x = some (.type T)) (ha : PDs X W (e :: es) fs) (hn : x ≠ "__name__" := by decide) (hdb : (x == ("__debug__" : Str)) = false := by decide)
    (he : starEach (e :: es) X.env = (false, eval e X.env) :: starEach es X.env := by rfl) (hpl : (backTo pos (starEach es X.env)).any (·.1) = false := by rfl) : PD X W (.Call (.Name x p) (e :: es) [] pos) (eB op fs) := imp_E (pe_callTy hc hg hm hv ha hn hdb he hpl) fun _ _ _ h => tCB_of hd h
end
end DL
end

section
set_option Elab.async false
set_option linter.all false
set_option autoImplicit false
set_option maxRecDepth 100000
set_option maxHeartbeats 4000000
namespace DL
open PySem PySem.Spec PyProof.Rows L2
/-! ### tuple * int, any count -/
theorem tuple_mulS (l : Addr) (items : Array Value) (n : Nat) (dd : Option Addr) (sl : Array (Option Value)) (x : Int) (u : Tok) (c0 : (decide (x < -(2 ^ 63)) || decide (x ≥ 2 ^ 63)) = false) (c1 : (items.isEmpty || x == 1) = true) :
    Meets (Builtin.«tuple.__mul__» ⟨[.ref l, .int x u], []⟩) (fun _ R s => s.heap.get? l = some { cls := .type "tuple", dict := dd, data := .seq items n, slots := sl } ∧
      R (.ok (.ret (Value.ref l))) s) :=
  .of_wp fun prog w A R s h => by
    obtain ⟨hp, g, d, tk, os⟩ := s
    obtain ⟨hl, h⟩ := h
    have f1 := AutoSeq1.idx_int
    wp_walk using wpAny_loadPart' hl
    repeat (first
      | (refine wpAny_ite_false (decide_eq_false (by rw [c0]; exact Bool.false_ne_true)) ?_; wp_walk using wpAny_loadPart' hl)
      | (refine wpAny_ite_true (decide_eq_true c1) ?_; wp_walk using wpAny_loadPart' hl))
    exact ⟨_, rfl, h⟩
theorem tuple_mulN (l : Addr) (items : Array Value) (n : Nat) (dd : Option Addr) (sl : Array (Option Value)) (x : Int) (u : Tok) (c0 : (decide (x < -(2 ^ 63)) || decide (x ≥ 2 ^ 63)) = false) (c1 : (items.isEmpty || x == 1) = false) (c2 : (decide (x ≤ 0) || items.isEmpty) = true) :
    Meets (Builtin.«tuple.__mul__» ⟨[.ref l, .int x u], []⟩) (fun _ R s => s.heap.get? l = some { cls := .type "tuple", dict := dd, data := .seq items n, slots := sl } ∧
      R (.ok (.ret (Value.ref s.heap.objs.size))) { s with heap := s.heap.push { cls := Value.type "tuple", data := Data.seq #[] }, toks := s.toks }) :=
  .of_wp fun prog w A R s h => by
    obtain ⟨hp, g, d, tk, os⟩ := s
    obtain ⟨hl, h⟩ := h
    have f1 := AutoSeq1.idx_int
    wp_walk using wpAny_loadPart' hl
    repeat (first
      | (refine wpAny_ite_false (decide_eq_false (by rw [c0]; exact Bool.false_ne_true)) ?_; wp_walk using wpAny_loadPart' hl)
      | (refine wpAny_ite_false (decide_eq_false (by rw [c1]; exact Bool.false_ne_true)) ?_; wp_walk using wpAny_loadPart' hl)
      | (refine wpAny_ite_true (decide_eq_true c2) ?_; wp_walk using wpAny_loadPart' hl))
    exact ⟨_, rfl, h⟩
def rRepA (K : PySem.W.Frag) : R2 := fun x y H Q => ∃ l k xs, x = .ref l ∧ y = .int k ∧ SqT K H l xs ∧ -1000000 ≤ k ∧ k ≤ 1000000 ∧ ((xs.length : Nat) : Int) * k ≤ 1000000 ∧ (xs = [] ∨ k = 1 → Q (.ref l) H) ∧ (xs ≠ [] → k ≠ 1 → ∀ p, H p = none → Q (.ref p) (upd H p (.tup (List.replicate k.toNat xs).flatten)))
section
variable {X : Cx}
theorem op_repA : OpR X (binaryOp .Mult) (rRepA X.K) := by
  intro pins s σ H x y v u Q I rx ry h
  obtain ⟨l, k, xs, rfl, rfl, hT, h1, h2, hz, q1, q2⟩ := h
  cases rx
  obtain ⟨t, rfl⟩ := ry
  obtain ⟨its, r, ⟨⟨cls, dd, data, sl⟩, ho, hc, n, hd⟩, hs⟩ := I.tuple hT
  simp only at hc hd
  subst hc hd
  have hle : its.length = xs.length := r.length.symm
  have hsz0 : its.toArray.size = xs.length := by rw [List.size_toArray, hle]
  have c0 : (decide (k < -(2 ^ 63)) || decide (k ≥ 2 ^ 63)) = false := by
    rw [decide_eq_false (by omega), decide_eq_false (by omega)] <;> rfl
  by_cases hone : xs = [] ∨ k = 1
  · have c1 : (its.toArray.isEmpty || k == 1) = true := by
      rcases hone with e | e
      · subst e
        have : its = [] := List.eq_nil_of_length_eq_zero (by rw [hle]; rfl)
        subst this; rfl
      · subst e; simp
    refine wpAny_binaryOp_repeat_ref (T := "tuple") (U := "int") (by decide) ⟨_, ho, rfl⟩ (fun s' => typeIs_int s' k t) noFill_tuple_mul F.fills_int_mul F.slot_int_rmul repeat_tuple F.slot_int_index.lookup
      (call_meets F.slot_int_rmul (typeIs_int s k t) F.entry_int_rmul (F.args_int_rmul_2 _ _) (int_rmul_tuple k t l its.toArray n dd sl)
        ⟨ho, rfl, ⟨_, ho, rfl⟩, call_meets F.slot_tuple_mul ⟨_, ho, rfl⟩ F.entry_tuple_mul (F.args_tuple_mul_2 _ _) (tuple_mulS l its.toArray n dd sl k t c0 c1) ⟨ho, ?_⟩⟩)
    exact ⟨.ref l, H, I, rfl, q1 hone⟩
  · have hne : xs ≠ [] := fun e => hone (.inl e)
    have hk1 : k ≠ 1 := fun e => hone (.inr e)
    have hn : its ≠ [] := fun e => hne (by
      rw [e] at hle
      exact List.eq_nil_of_length_eq_zero hle.symm)
    have hi : its.toArray.isEmpty = false := by
      cases its with
      | nil => exact absurd rfl hn
      | cons a b => rfl
    have c1 : (its.toArray.isEmpty || k == 1) = false := by
      rw [hi, Bool.false_or]
      exact beq_eq_false_iff_ne.mpr (by omega)
    by_cases hk : k ≤ 0
    · have c2 : (decide (k ≤ 0) || its.toArray.isEmpty) = true := by
        rw [decide_eq_true hk]; rfl
      refine wpAny_binaryOp_repeat_ref (T := "tuple") (U := "int") (by decide) ⟨_, ho, rfl⟩ (fun s' => typeIs_int s' k t) noFill_tuple_mul F.fills_int_mul F.slot_int_rmul repeat_tuple F.slot_int_index.lookup
        (call_meets F.slot_int_rmul (typeIs_int s k t) F.entry_int_rmul (F.args_int_rmul_2 _ _) (int_rmul_tuple k t l its.toArray n dd sl)
          ⟨ho, rfl, ⟨_, ho, rfl⟩, call_meets F.slot_tuple_mul ⟨_, ho, rfl⟩ F.entry_tuple_mul (F.args_tuple_mul_2 _ _) (tuple_mulN l its.toArray n dd sl k t c0 c1 c2) ⟨ho, ?_⟩⟩)
      have e0 : (List.replicate k.toNat xs).flatten = [] := by
        have : k.toNat = 0 := by omega
        rw [this]; rfl
      have q2' := q2 hne hk1
      rw [e0] at q2'
      refine ⟨.ref s.heap.objs.size, _, I.laid (t' := s.toks) (o := .tup []) (fun b ob q => Heap.get?_push_of_some _ q) (Nat.le_refl _) ?_, rfl, q2' _ (I.hok.fresh (Nat.le_refl _))⟩
      exact ⟨Nat.zero_le _, [], .nil, IsTup.new _ _⟩
    · have c2 : (decide (k ≤ 0) || its.toArray.isEmpty) = false := by
        rw [hi, Bool.or_false]
        exact decide_eq_false (by omega)
      have hm : ((its.toArray.size : Nat) : Int) * k ≤ 1000000 := by rw [hsz0]; exact hz
      have c4 : Builtin.Tuple.tupleTooMany (((its.toArray.size : Nat) : Int) * k) = false := by
        unfold Builtin.Tuple.tupleTooMany
        rw [sizeLine_eq]
        exact decide_eq_false (by omega)
      have flen : k.toNat * xs.length ≤ 1000000 := by
        have : ((k.toNat * xs.length : Nat) : Int) ≤ 1000000 := by
          rw [Int.natCast_mul, Int.toNat_of_nonneg (by omega), Int.mul_comm]; exact hz
        omega
      refine wpAny_binaryOp_repeat_ref (T := "tuple") (U := "int") (by decide) ⟨_, ho, rfl⟩ (fun s' => typeIs_int s' k t) noFill_tuple_mul F.fills_int_mul F.slot_int_rmul repeat_tuple F.slot_int_index.lookup
        (call_meets F.slot_int_rmul (typeIs_int s k t) F.entry_int_rmul (F.args_int_rmul_2 _ _) (int_rmul_tuple k t l its.toArray n dd sl)
          ⟨ho, rfl, ⟨_, ho, rfl⟩, call_meets F.slot_tuple_mul ⟨_, ho, rfl⟩ F.entry_tuple_mul (F.args_tuple_mul_2 _ _) (tuple_mulW l its.toArray n dd sl k t c0 c1 c2 (by omega) c4 (by rw [size_rep, List.size_toArray, PyProof.Rows.lm_len_rep_flat, hle, sizeLine_eq]; omega)) ⟨ho, ?_⟩⟩)
      rw [size_rep]
      refine ⟨.ref s.heap.objs.size, _, I.laid (t' := s.toks) (o := .tup (List.replicate k.toNat xs).flatten) (fun b ob q => Heap.get?_push_of_some _ q) (Nat.le_refl _) ?_, rfl, q2 hne hk1 _ (I.hok.fresh (Nat.le_refl _))⟩
      exact ⟨by rw [PyProof.Rows.lm_len_rep_flat, sizeLine_eq]; omega, _, r.rep k.toNat, IsTup.new _ _⟩
end
end DL
end

section
set_option Elab.async false
set_option linter.all false
set_option autoImplicit false
set_option maxRecDepth 100000
set_option maxHeartbeats 1000000
namespace DL
open PySem PySem.Spec L2
open PyProof.Rows (envOfC)
section
variable {X : Cx} {W : Wd}
/-! ### products -/
def dMul : D → D → Option D
  | .int a, .int b => if small64 a || small64 b then some (.int (a * b)) else none
  | .tup xs, .int k => if decide (-1000000 ≤ k) && decide (k ≤ 1000000) && decide (((xs.length : Nat) : Int) * k ≤ 1000000) then some (.tup (List.replicate k.toNat xs).flatten) else none
  | _, _ => none
theorem d_mul {a b : Expr} {fa fb : EX} {pos : Pos} (ha : PD X W a fa) (hb : PD X W b fb) : PD X W (.BinOp a .Mult b pos) (e2 dMul fa fb) := d_op (op_mul.or op_repA) (by
  intro fr F H σ ρ n x y d v u Q R dx dy h k
  unfold dMul at h
  split at h
  · split at h
    · rename_i q
      rw [Bool.or_eq_true] at q
      cases dx; cases dy; cases h
      exact .inl ⟨_, _, rfl, rfl, q.imp small64_ok small64_ok, k F H _ R (Sub.refl _) (.int _)⟩
    · cases h
  · split at h
    · rename_i xs kk q
      simp only [Bool.and_eq_true, decide_eq_true_eq] at q
      cases dx with
      | tup h1 h2 =>
        cases dy; cases h
        refine .inr ⟨_, _, _, rfl, rfl, R.core.sub.sqT h1, q.1.1, q.1.2, by rw [h2.length]; exact q.2, fun e => ?_, fun e1 e2 => put_tup R (h2.rep _) k⟩
        have : (List.replicate kk.toNat xs).flatten = xs := by
          rcases e with e | e
          · rw [(dens_ne h2).mp e]; simp
          · subst e; simp
        rw [this] at k
        exact k F H _ R (Sub.refl _) (.tup h1 h2)
    · cases h
  · cases h) ha hb

/-! ### attributes, methods, instances -/
def dFld (c : Nat) (f : Str) : D → Option D
  | .obj c' ks vs => if c' = c then (ks.zip vs).lookup f else none
  | _ => none
theorem lookup_zip {K : PySem.W.Frag} {dr : Option Addr} {F : Hp} {f : Str} {d : D} : ∀ {ks : List Str} {vs : List V} {ds : List D}, ks.length = vs.length → Dens K W dr F vs ds → (ks.zip ds).lookup f = some d → ∃ v, (ks.zip vs).lookup f = some v ∧ Den K W dr F v d
  | [], _, _, _, _, e => by simp at e
  | k :: ks, [], _, l, _, _ => by simp at l
  | k :: ks, v :: vs, _, l, .cons h r, e => by
    rw [List.zip_cons_cons, List.lookup_cons] at e
    rw [List.zip_cons_cons, List.lookup_cons]
    split at e
    · cases e
      exact ⟨v, rfl, h⟩
    · exact lookup_zip (by simpa using l) r e
theorem lookup_zip_none {f : Str} : ∀ {ks : List Str} {vs : List V} {ds : List D}, ks.length = vs.length → vs.length = ds.length → (ks.zip ds).lookup f = none → (ks.zip vs).lookup f = none
  | [], _, _, _, _, _ => by simp
  | k :: ks, [], _, l, _, _ => by simp at l
  | k :: ks, v :: vs, [], _, l, _ => by simp at l
  | k :: ks, v :: vs, d :: ds, l, l', e => by
    rw [List.zip_cons_cons, List.lookup_cons] at e
    rw [List.zip_cons_cons, List.lookup_cons]
    split at e
    · cases e
    · exact lookup_zip_none (by simpa using l) (by simpa using l') e
theorem d_fld {e : Expr} {f : Str} {fx : EX} {c : Nat} {pos : Pos} (cl : Cls X.K (W.cl c)) (na : NoAttr X.K (W.cl c) f) (he : PD X W e fx) (hb : attributeBase e f X.env (eval e X.env) = eval e X.env := by rfl) : PD X W (.Attribute e f pos) (e1 (dFld c f) fx) := imp_E (pe_fld he hb) fun σ H Q ⟨fr, F, ρ, n, d, n', R, e, k⟩ => by
  obtain ⟨x, n1, h1, h⟩ := M.bind_ok e
  obtain ⟨h2, h3⟩ := M.opt_ok h
  subst h3
  refine ⟨fr, F, ρ, n, x, _, R, h1, fun F1 H1 v R1 s1 d1 => ?_⟩
  unfold dFld at h2
  split at h2
  · split at h2
    · rename_i c' ks vs q
      subst q
      cases d1 with
      | obj l hF hd =>
        obtain ⟨u, e1, e2⟩ := lookup_zip l hd h2
        exact ⟨_, _, _, _, u, rfl, R1.core.sub _ _ hF, cl, na, e1, k F1 H1 u R1 s1 e2⟩
    · cases h2
  · cases h2
/-- o.m(..): o, then the others -/
def isObj (c : Nat) (m : Str) : D → Bool
  | .obj c' ks vs => decide (c' = c) && ((ks.zip vs).lookup m).isNone
  | _ => false
def eMeth (c : Nat) (m : Str) (fx : FX) (fo : EX) (fs : EXs) : EX := fun ρ => M.bind (fo ρ) fun o => if isObj c m o then M.bind (fs ρ) fun ds => fx (o :: ds) else M.opt none
theorem tMeth_of {K : PySem.W.Frag} {c : Nat} {m : Str} {fx : FX} {fo : EX} {fs : EXs} {mm : Nat} {E : XK} (hm : ∀ ρ n ds n', fs ρ n = some (.ok ds, n') → ds.length = mm) {σ : St} {H : Hp} {Q : VK} (h : tD K W (eMeth c m fx fo fs) σ H Q) :
    tMeth (W.cl c) m (spD K W fx (mm + 1)) [] E (tD K W fo) (tDs K W fs) σ H Q := by
  obtain ⟨fr, F, ρ, n, d, n', R, e, k⟩ := h
  obtain ⟨o, n1, e1, h1⟩ := M.bind_ok e
  refine ⟨fr, F, ρ, n, o, n1, R, e1, fun F1 H1 v R1 s1 d1 => ?_⟩
  split at h1
  · rename_i q
    unfold isObj at q
    split at q
    · rw [Bool.and_eq_true, decide_eq_true_eq] at q
      obtain ⟨q1, q2⟩ := q
      subst q1
      cases d1 with
      | obj l hF hd =>
        obtain ⟨ds, n2, e2, h2⟩ := M.bind_ok h1
        refine ⟨_, _, _, rfl, R1.core.sub _ _ hF, lookup_zip_none l hd.length (Option.isNone_iff_eq_none.mp q2), ?_⟩
        refine ⟨fr, F1, ρ, n1, ds, n2, R1, e2, fun F2 H2 vs R2 s2 d2 => ?_⟩
        show spD K W fx (mm + 1) (_ :: (vs ++ [])) H2 Q E
        rw [List.append_nil]
        refine ⟨by rw [List.length_cons, d2.length, hm _ _ _ _ e2], fr, F2, n2, _, d, n', R2.core, .cons (.obj l (s2 _ _ hF) (hd.mono s2 fun _ z => z)) d2, h2, fun F3 H3 u c3 d3 => k F3 H3 u (R2.back c3) ((s1.trans s2).trans c3.f0) d3⟩
    · cases q
  · cases (M.opt_ok h1).1
theorem d_meth {k : Nat} {c : Nat} {f : Addr} {fd : FuncData} {ps : List Str} {m : Str} {pos apos : Pos} {e o : Expr} {es : List Expr} {fx : FX} {fo : EX} {fs : EXs} {mm : Nat} {pl : Sem Bool} (ho : PD X W o fo) (cl : Cls X.K (W.cl c)) (hm : Meth X.K (W.cl c) m f)
    (F : FnOk X.prog X.w X.K X.mg X.base CX0 k f fd ps (spD X.K W fx (mm + 1))) (hr : Room k X.A) (hb : Binds X.K fd ps []) (ha : PDs X W (e :: es) fs) (hl : ∀ ρ n ds n', fs ρ n = some (.ok ds, n') → ds.length = mm)
    (hst : starEach (e :: es) X.env = (false, eval e X.env) :: starEach es X.env := by rfl) (hpl : (backTo pos (starEach es X.env)).any (·.1) = false := by rfl)
    (ht : eval (.Call (.Attribute o m apos) (e :: es) [] pos) X.env = (do
      let ov ← eval o X.env
      standAt apos.atName
      let (f, first) ← holding [ov] (getMethod ov m pl)
      callWith pos f first (backTo pos (starEach (e :: es) X.env)) (backToKw pos (keywordEach [] X.env))) := by rfl) :
    PD X W (.Call (.Attribute o m apos) (e :: es) [] pos) (eMeth c m fx fo fs) := imp_E (pe_meth (E := E0) ho cl hm F hr hb .nil pass0 ha hst hpl ht) fun _ _ _ h => tMeth_of hl h
theorem d_meth0 {k : Nat} {c : Nat} {f : Addr} {fd : FuncData} {ps : List Str} {m : Str} {pos apos : Pos} {o : Expr} {fx : FX} {fo : EX} {pl : Sem Bool} (ho : PD X W o fo) (cl : Cls X.K (W.cl c)) (hm : Meth X.K (W.cl c) m f)
    (F : FnOk X.prog X.w X.K X.mg X.base CX0 k f fd ps (spD X.K W fx 1)) (hr : Room k X.A) (hb : Binds X.K fd ps [])
    (ht : eval (.Call (.Attribute o m apos) [] [] pos) X.env = (do
      let ov ← eval o X.env
      standAt apos.atName
      let (f, first) ← holding [ov] (getMethod ov m pl)
      callWith pos f first (backTo pos (starEach [] X.env)) (backToKw pos (keywordEach [] X.env))) := by rfl) :
    PD X W (.Call (.Attribute o m apos) [] [] pos) (eMeth c m fx fo eNil) := imp_E (pe_meth0 (E := E0) ho cl hm F hr hb .nil pass0 ht) fun σ H Q h => by
  have := tMeth_of (E := E0) al_nil h
  obtain ⟨fr, F, ρ, n, o, n1, R, e1, k⟩ := this
  refine ⟨fr, F, ρ, n, o, n1, R, e1, fun F1 H1 v R1 s1 d1 => ?_⟩
  obtain ⟨a, dx, fs, q1, q2, q3, q4⟩ := k F1 H1 v R1 s1 d1
  obtain ⟨fr2, F2, ρ2, n2, ds, n3, R2, e2, k2⟩ := q4
  obtain ⟨b1, b2⟩ := M.pure_ok e2
  subst b1 b2
  exact ⟨a, dx, fs, q1, q2, q3, k2 F2 H1 [] R2 (Sub.refl _) .nil⟩

/-! ### a new instance -/
/-- the promise of an __init__ that raises nothing: f: the arguments to the instance -/
def spI (K : PySem.W.Frag) (W : Wd) (f : FX) (c m : Nat) : Sp := fun vs H Q _ => vs.length = m + 1 ∧ ∃ fr F n p dx us ds ks fs n', vs = .ref p :: us ∧ H p = some (.ins (W.cl c) dx []) ∧ F p = none ∧ fr.dr ≠ some p ∧ Core K W fr F H n ∧ Dens K W fr.dr F us ds ∧ f ds n = some (.ok (.obj c ks fs), n') ∧
  ∀ F' H', Core K W ⟨fr.dr, fr.sa, H, F, fun a => a = p⟩ F' H' n' → F' p = none → MDen K W fr.dr F' H' p (.obj c ks fs) → Q .non H'
def runI (N P c : Nat) (g : SX) : FX := fun ds => M.bind (g (Sl.own (.obj c [] []) :: ds.map Sl.val ++ List.replicate (N - P) Sl.no)) fun o => match o with
  | .nx (Sl.own d :: _) => M.pure d
  | _ => M.opt none
end
section
variable {P : Program} {w : World} {K : PySem.W.Frag} {mg : Str → Option Value} {base : Heap} {W : Wd}
theorem okI {x qual : Str} {st : Stmt} {f : Addr} {fd : FuncData} {N ps : List Str} {k m cc : Nat} {g : SX} (F : Fun K x qual st f fd) (S : FnScope N ps (defScope st)) (hps : ps.length = m + 1)
    (body : ∀ (cdv : Value) (A : Around) (outer : List PySem.Env) (s : Shared) (H : Hp) (E : XK), Room k (A.deeper (envOfC qual (defScope st) s.heap.objs.size f cdv)) → PSs (cxOf CX0 P w K mg base N qual (defScope st) f cdv A outer s H E).nox (defBody st) (tS K W g)) :
    FnOk P w K mg base CX0 (k + 1) f fd ps (spI K W (runI N.length (m + 1) cc g) cc m) := by
  refine F.ok S (fun vs H Q E h => by rw [hps]; exact h.1) fun cdv A outer s H vs Q E hr h => ?_
  obtain ⟨hl, fr, F0, n, p, dx, us, ds, ks, fs, n', rfl, hp, hF, hdr, c, dd, e, k⟩ := h
  refine ⟨_, body cdv A outer s H E hr, ?_⟩
  obtain ⟨o, n1, e1, h1⟩ := M.bind_ok e
  have c' : Core K W ⟨fr.dr, fr.sa, H, F0, fun a => a = p⟩ F0 H n := ⟨c.sub, fun _ _ h _ _ => h, Sub.refl _, fun _ _ _ h => h, fun _ o h => ⟨o, h⟩, c.draw⟩
  have hus : us.length = m := by simpa using hl
  have key : ∀ (i : Nat) (e : Sl), (Sl.own (.obj cc [] []) :: ds.map Sl.val ++ List.replicate (N.length - (m + 1)) Sl.no)[i]? = some e → e ≠ .no → (i = 0 ∧ e = .own (.obj cc [] [])) ∨ ∃ d j, i = j + 1 ∧ ds[j]? = some d ∧ e = .val d := fun i e q ne => by
    cases i with
    | zero => left; simp at q; exact ⟨rfl, q.symm⟩
    | succ j =>
      right
      rw [List.cons_append, List.getElem?_cons_succ] at q
      by_cases hi : j < ds.length
      · rw [List.getElem?_append_left (by simpa using hi), List.getElem?_map] at q
        cases z : ds[j]? with
        | none => rw [z] at q; cases q
        | some d' => rw [z] at q; cases q; exact ⟨d', j, rfl, z, rfl⟩
      · rw [List.getElem?_append_right (by simpa using hi)] at q
        have := List.mem_of_getElem? q
        rw [List.mem_replicate] at this
        exact absurd this.2 ne
  have R : Rel K W ⟨fr.dr, fr.sa, H, F0, fun a => a = p⟩ F0 H (L2.start N (.ref p :: us)) (Sl.own (.obj cc [] []) :: ds.map Sl.val ++ List.replicate (N.length - (m + 1)) Sl.no) n := by
    refine ⟨c', fun _ => p, ?_, fun i e q => ?_, fun i e q => ?_, fun i j e e' q q' _ => ?_⟩
    · unfold L2.start; simp [← dd.length, hus]
    · rcases key i _ q (by simp) with ⟨_, h⟩ | ⟨d', j, rfl, h1, h2⟩
      · cases h
      · cases h2
        obtain ⟨v, h3, h4⟩ := dd.get h1
        refine ⟨v, ?_, h4⟩
        unfold L2.start
        have hi := (List.getElem?_eq_some_iff.mp h3).1
        rw [List.map_cons, List.cons_append, List.getElem?_cons_succ, List.getElem?_append_left (by simpa using hi), List.getElem?_map, h3]; rfl
    · rcases key i _ q (by simp) with ⟨rfl, h⟩ | ⟨d', j, rfl, h1, h2⟩
      · cases h
        exact ⟨rfl, hF, hdr, .inr rfl, ⟨dx, [], rfl, hp, .nil⟩, .inl ⟨rfl, rfl⟩⟩
      · cases h2
    · rcases key i _ q (by simp) with ⟨rfl, h⟩ | ⟨d', j', rfl, h1, h2⟩
      · rcases key j _ q' (by simp) with ⟨rfl, h⟩ | ⟨d', j', rfl, h1, h2⟩
        · rfl
        · cases h2
      · cases h2
  refine ⟨_, F0, _, n, o, n1, R, e1, ?_⟩
  split at h1
  · obtain ⟨a1, a2⟩ := M.pure_ok h1
    subst a1 a2
    intro F' H' σ' R' s'
    obtain ⟨ad, sl⟩ := R'.slots
    obtain ⟨q1, q2, q3, q4, q5, q7⟩ := sl.own 0 _ rfl
    have q6 : ad 0 = p := by
      rcases q7 with q7 | q7
      · exact q7.2
      · cases q7.1
    rw [q6] at q2 q5
    exact k F' H' R'.core q2 q5
  · cases (M.opt_ok h1).1
end
end DL
end

section
set_option Elab.async false
set_option linter.all false
set_option autoImplicit false
set_option maxRecDepth 100000
set_option maxHeartbeats 1000000
namespace DL
open PySem PySem.Spec L2
section
variable {K : PySem.W.Frag} {W : Wd} {fr : Fr} {F F' H H2 H' : Hp} {σ : St} {ρ : Env} {n n' : Int} {x : Addr}
theorem Rel.backM (r : Rel K W fr F H σ ρ n) (hx : H x = none) (h2 : ∀ a o, H a = some o → H2 a = some o) (d : Core K W ⟨fr.dr, fr.sa, H2, F, fun a => a = x⟩ F' H' n') : Rel K W fr F' H' σ ρ n' := by
  have c := r.core
  have old : ∀ a o, H a = some o → fr.dr ≠ some a → H' a = some o := fun a o q z => d.base a o (h2 _ _ q) z fun e => by
    have e : a = x := e
    rw [e, hx] at q; cases q
  refine r.keep ⟨d.sub, fun a o q1 q2 q3 => old a o (c.base a o q1 q2 q3) q2, c.f0.trans d.f0, fun a o q1 q2 => ?_, fun a o q => ?_, d.draw⟩ d.f0 old fun a o q z => d.new a o (h2 _ _ q) z
  · obtain ⟨o', q⟩ := c.there a o q1
    exact d.new a o' (h2 _ _ q) (c.new a o q1 q2)
  · obtain ⟨o', q'⟩ := c.there a o q
    exact d.there a o' (h2 _ _ q')
end
section
variable {X : Cx} {W : Wd} {k : Nat} {f : Addr} {fd : FuncData} {ps : List Str} {x m : Str} {p pos apos : Pos} {e o : Expr} {es : List Expr}
theorem mden_den {K : PySem.W.Frag} {dr : Option Addr} {F H : Hp} {a : Addr} {d : D} (m : MDen K W dr F H a d) (hF : F a = none) : ∃ o, H a = some o ∧ Den K W dr (upd F a o) (.ref a) d := by
  have up : ∀ o, Sub F (upd F a o) := fun o b u q => by rw [upd_ne (ne_of_none q hF)]; exact q
  cases d with
  | lst ds => obtain ⟨vs, e, q⟩ := m; exact ⟨_, e, .lst upd_same (q.mono (up _) fun _ z => z)⟩
  | dic ks ds => obtain ⟨vs, l, e, q⟩ := m; exact ⟨_, e, .dic l (.inl upd_same) (q.mono (up _) fun _ z => z)⟩
  | dit ks ds => obtain ⟨vs, l, e, q⟩ := m; exact ⟨_, e, .dit l (.inl upd_same) (q.mono (up _) fun _ z => z)⟩
  | obj c ks ds => obtain ⟨dx, vs, l, e, q⟩ := m; exact ⟨_, e, .obj l upd_same (q.mono (up _) fun _ z => z)⟩
  | non => exact m.elim
  | bl _ => exact m.elim
  | int _ => exact m.elim
  | str _ => exact m.elim
  | tup _ => exact m.elim
  | drw => exact m.elim
  | scr => exact m.elim
/-- C(..) -/
def eMake (c : Nat) (fx : FX) (fs : EXs) : EX := fun ρ => M.bind (fs ρ) fun ds => M.bind (fx ds) fun d => match d with
  | .obj c' ks vs => if c' = c then M.pure (.obj c' ks vs) else M.opt none
  | _ => M.opt none
theorem tMake_of {K : PySem.W.Frag} {c mm : Nat} {fx : FX} {fs : EXs} {E : XK} (hm : ∀ ρ n ds n', fs ρ n = some (.ok ds, n') → ds.length = mm) {σ : St} {H : Hp} {Q : VK} (h : tD K W (eMake c fx fs) σ H Q) : tMake (W.cl c) (spI K W fx c mm) [] E (tDs K W fs) σ H Q := by
  obtain ⟨fr, F, ρ, n, d, n', R, e, k⟩ := h
  obtain ⟨ds, n1, e1, h1⟩ := M.bind_ok e
  obtain ⟨d', n2, e2, h2⟩ := M.bind_ok h1
  refine ⟨fr, F, ρ, n, ds, n1, R, e1, fun F1 H1 vs R1 s1 d1 => ?_⟩
  split at h2
  · split at h2
    · obtain ⟨b1, b2⟩ := M.pure_ok h2
      rename_i c' ks fs' q
      subst q
      subst b1 b2
      intro x dx hx hdx hne
      have h2 : ∀ a o, H1 a = some o → (upd (upd H1 dx (.own x)) x (.ins (W.cl c') dx [])) a = some o := fun a o q => by
        rw [upd_ne (ne_of_none q hx), upd_ne (ne_of_none q hdx)]; exact q
      have c1 := R1.core
      show spI K W fx c' mm (.ref x :: (vs ++ [])) _ _ E
      rw [List.append_nil]
      have F1x := c1.noF hx
      refine ⟨by rw [List.length_cons, d1.length, hm _ _ _ _ e1], fr, F1, n1, x, dx, vs, ds, ks, fs', _, rfl, upd_same, F1x, c1.ndr hx, ⟨fun a o q => h2 _ _ (c1.sub _ _ q), fun a o q q2 q3 => h2 _ _ (c1.base a o q q2 q3), c1.f0, c1.new, fun a o q => ?_, fun a q => ?_⟩, d1, e2, fun F' H' c2 q1 q2 => ⟨rfl, ?_⟩⟩
      · obtain ⟨o', z⟩ := c1.there a o q
        exact ⟨o', h2 _ _ z⟩
      · obtain ⟨a1, a2, a3⟩ := c1.draw a q
        exact ⟨a1, h2 _ _ a2, a3⟩
      · have R2 := R1.backM hx h2 c2
        obtain ⟨o, z1, z2⟩ := mden_den q2 q1
        obtain ⟨u1, R3⟩ := R2.addF z1 q1 (c1.noH0 hx) (c1.ndr hx) (R1.noOwn hx)
        exact k _ H' _ R3 ((s1.trans c2.f0).trans u1) z2
    · cases (M.opt_ok h2).1
  · cases (M.opt_ok h2).1
theorem d_make {c mm : Nat} {fx : FX} {fs : EXs} (Mm : Mk X.K (W.cl c) f) (F : FnOk X.prog X.w X.K X.mg X.base CX0 k f fd ps (spI X.K W fx c mm)) (hr : Room (k + 1) X.A) (hg : Gl X x) (hm : X.mg x = some (.ref (W.cl c))) (hb : Binds X.K fd ps [])
    (ha : PDs X W (e :: es) fs) (hl : ∀ ρ n ds n', fs ρ n = some (.ok ds, n') → ds.length = mm) (hdb : (x == ("__debug__" : Str)) = false := by decide) (he : starEach (e :: es) X.env = (false, eval e X.env) :: starEach es X.env := by rfl) (hpl : (backTo pos (starEach es X.env)).any (·.1) = false := by rfl) :
    PD X W (.Call (.Name x p) (e :: es) [] pos) (eMake c fx fs) := imp_E (pe_make (E := E0) Mm F hr hg hm hb .nil pass0 ha hdb he hpl) fun _ _ _ h => tMake_of hl h

/-! ### one's own: fields, lists, dicts -/
def putKs (f : Str) : List Str → List Str
  | [] => [f]
  | g :: r => if g = f then g :: r else g :: putKs f r
def putVs {α : Type} (f : Str) (d : α) : List Str → List α → List α
  | [], _ => [d]
  | g :: r, v :: vs => if g = f then d :: vs else v :: putVs f d r vs
  | _ :: _, [] => []
theorem putKs_length {α : Type} (f : Str) (d : α) : ∀ {ks : List Str} {vs : List α}, ks.length = vs.length → (putKs f ks).length = (putVs f d ks vs).length
  | [], [], _ => rfl
  | [], _ :: _, l => by simp at l
  | g :: r, [], l => by simp at l
  | g :: r, v :: vs, l => by
    unfold putKs putVs
    split
    · exact l
    · simp [putKs_length f d (ks := r) (vs := vs) (by simpa using l)]
theorem putF_zip (f : Str) (v : V) : ∀ {ks : List Str} {vs : List V}, ks.length = vs.length → putF f v (ks.zip vs) = (putKs f ks).zip (putVs f v ks vs)
  | [], [], _ => rfl
  | [], _ :: _, l => by simp at l
  | g :: r, [], l => by simp at l
  | g :: r, u :: vs, l => by
    rw [List.zip_cons_cons]
    unfold putF putKs putVs
    split
    · rw [List.zip_cons_cons]
    · rw [List.zip_cons_cons, putF_zip f v (by simpa using l)]
theorem Dens.putVs {K : PySem.W.Frag} {dr : Option Addr} {F : Hp} (f : Str) {v : V} {d : D} (h : Den K W dr F v d) : ∀ {ks : List Str} {vs : List V} {ds : List D}, ks.length = vs.length → Dens K W dr F vs ds → Dens K W dr F (putVs f v ks vs) (putVs f d ks ds)
  | [], [], _, _, .nil => .cons h .nil
  | [], _ :: _, _, l, _ => by simp at l
  | g :: r, [], _, l, _ => by simp at l
  | g :: r, u :: vs, _, l, .cons q s => by
    unfold DL.putVs
    split
    · exact .cons h s
    · exact .cons q (Dens.putVs f h (by simpa using l) s)
def own? (ρ : Env) (i : Nat) : Option D := match ρ[i]? with
  | some (Sl.own d) => some d
  | _ => none
theorem own_some {ρ : Env} {i : Nat} {d : D} (h : own? ρ i = some d) : ρ[i]? = some (Sl.own d) := by
  unfold own? at h
  split at h
  · cases h; assumption
  · cases h
/-- what is one's own is changed by a value -/
def sUp (i : Nat) (up : D → D → Option D) (fx : EX) : SX := fun ρ => M.bind (fx ρ) fun d => M.bind (M.opt ((own? ρ i).bind (up d))) fun o => M.pure (.nx (ρ.set i (.own o)))
theorem sUp_ok {i : Nat} {up : D → D → Option D} {fx : EX} {ρ : Env} {n n' : Int} {o : Out} (h : sUp i up fx ρ n = some (.ok o, n')) : ∃ d a b, fx ρ n = some (.ok d, n') ∧ ρ[i]? = some (Sl.own a) ∧ up d a = some b ∧ o = .nx (ρ.set i (.own b)) := by
  obtain ⟨d, n1, e1, h1⟩ := M.bind_ok h
  obtain ⟨b, n2, e2, h2⟩ := M.bind_ok h1
  obtain ⟨e3, e4⟩ := M.opt_ok e2
  obtain ⟨e5, e6⟩ := M.pure_ok h2
  subst e4
  cases q : own? ρ i with
  | none => rw [q] at e3; cases e3
  | some a =>
    rw [q] at e3
    exact ⟨d, a, b, by rw [e6]; exact e1, own_some q, e3, e5.symm⟩
/-- self.f = e, self one's own -/
def uFld (c : Nat) (f : Str) (d : D) : D → Option D
  | .obj c' ks vs => if c' = c ∧ ks.length < 1000 ∧ ks.length = vs.length then some (.obj c' (putKs f ks) (putVs f d ks vs)) else none
  | _ => none
theorem S_fld {i c : Nat} {o : Expr} {f : Str} {fx : EX} {value : Expr} {pos pos' : Pos} (cl : Cls X.K (W.cl c)) (na : NoAttr X.K (W.cl c) f) (ho : PE X o (tVar i)) (hv : PD X W value fx) (hs : swapsWith value (some (.Attribute o f pos')) pos.line X.env = pure false := by rfl) : PDS X W (.Assign [.Attribute o f pos'] value pos) (sUp i (uFld c f) fx) := imp_S (ps_fld ho hv hs) fun E σ H ⟨fr, F, ρ, n, o, n', R, e, k⟩ => by
  obtain ⟨d, a, b, e1, hi, e3, rfl⟩ := sUp_ok e
  refine ⟨fr, F, ρ, n, d, n', R, e1, fun F1 H1 v R1 s1 d1 => ?_⟩
  unfold uFld at e3
  split at e3
  · split at e3
    · rename_i c' ks vs q
      obtain ⟨q1, q2, q3⟩ := q
      subst q1
      cases e3
      obtain ⟨ad, s⟩ := R1.slots
      obtain ⟨a1, a2, a3, a4, ⟨dx, us, l, a5, a6⟩, a7⟩ := s.own i _ hi
      refine ⟨_, a1, ad i, _, dx, _, rfl, a5, cl, na, ?_, ?_⟩
      · rw [List.length_zip, l, Nat.min_self]
        rw [← l]; exact q2
      · have m' : MDen X.K W fr.dr F1 (upd H1 (ad i) (.ins (W.cl c') dx (putF f v (ks.zip us)))) (ad i) (.obj c' (putKs f ks) (putVs f d ks vs)) :=
          ⟨dx, _, putKs_length f v l, by rw [upd_same, putF_zip f v l], a6.putVs f d1 l⟩
        exact k F1 _ _ (R1.change s hi m' rfl) s1
    · cases e3
  · cases e3
/-- reading a field of one's own -/
def eOwnFld (i c : Nat) (f : Str) : EX := fun ρ => M.opt ((own? ρ i).bind (dFld c f))
theorem d_ownFld {i c : Nat} {o : Expr} {f : Str} {pos : Pos} (cl : Cls X.K (W.cl c)) (na : NoAttr X.K (W.cl c) f) (ho : PE X o (tVar i)) (hb : attributeBase o f X.env (eval o X.env) = eval o X.env := by rfl) : PD X W (.Attribute o f pos) (eOwnFld i c f) := imp_E (pe_fld ho hb) fun σ H Q ⟨fr, F, ρ, n, d, n', R, e, k⟩ => by
  obtain ⟨h1, h2⟩ := M.opt_ok e
  subst h2
  cases q : own? ρ i with
  | none => rw [q] at h1; cases h1
  | some a =>
  rw [q] at h1
  have hi := own_some q
  have h1 : dFld c f a = some d := h1
  clear q
  unfold dFld at h1
  split at h1
  · split at h1
    · rename_i c' ks vs q
      subst q
      obtain ⟨ad, s⟩ := R.slots
      obtain ⟨a1, a2, a3, a4, ⟨dx, us, l, a5, a6⟩, a7⟩ := s.own i _ hi
      obtain ⟨u, e1, e2⟩ := lookup_zip l a6 h1
      exact ⟨_, a1, ad i, _, dx, _, u, rfl, a5, cl, na, e1, k F H u R (Sub.refl _) e2⟩
    · cases h1
  · cases h1
/-- x = [] -/
def sOwn (i : Nat) (d : D) : SX := fun ρ => M.pure (.nx (ρ.set i (.own d)))
theorem S_nil_ {i : Nat} {y : Str} {px p2 pos : Pos} (hN : X.N.Nodup) (hi : X.N[i]? = some y) (hx : Loc X.env.scope y) (hs : swapsWith (.List [] p2) (some (.Name y px)) pos.line X.env = pure false := by rfl) (hf : X.fn y = true ∨ X.env.scope.names.lookup y = some .local := by first | exact .inl rfl | exact .inr rfl | assumption) : PDS X W (.Assign [.Name y px] (.List [] p2) pos) (sOwn i (.lst [])) := imp_S (ps_set hN hi hx (pe_lst pa_nil) hs hf) fun E σ H ⟨fr, F, ρ, n, o, n', R, e, k⟩ => by
  obtain ⟨b1, b2⟩ := M.pure_ok e
  subst b1 b2
  exact ⟨Nat.zero_le _, fun p hp => k F _ _ (R.setOwn hp rfl ⟨[], upd_same, .nil⟩) (Sub.refl _)⟩
theorem S_dic_ {i : Nat} {y : Str} {px p2 pos : Pos} (hN : X.N.Nodup) (hi : X.N[i]? = some y) (hx : Loc X.env.scope y) (hs : swapsWith (.Dict [] [] p2) (some (.Name y px)) pos.line X.env = pure false := by rfl) (hf : X.fn y = true ∨ X.env.scope.names.lookup y = some .local := by first | exact .inl rfl | exact .inr rfl | assumption) : PDS X W (.Assign [.Name y px] (.Dict [] [] p2) pos) (sOwn i (.dic [] [])) := imp_S (ps_set hN hi hx pe_dnewK hs hf) fun E σ H ⟨fr, F, ρ, n, o, n', R, e, k⟩ => by
  obtain ⟨b1, b2⟩ := M.pure_ok e
  subst b1 b2
  exact fun p hp => k F _ _ (R.setOwn hp rfl ⟨[], rfl, upd_same, .nil⟩) (Sub.refl _)
theorem S_dit_ {i : Nat} {y : Str} {px p2 pos : Pos} (hN : X.N.Nodup) (hi : X.N[i]? = some y) (hx : Loc X.env.scope y) (hs : swapsWith (.Dict [] [] p2) (some (.Name y px)) pos.line X.env = pure false := by rfl) (hf : X.fn y = true ∨ X.env.scope.names.lookup y = some .local := by first | exact .inl rfl | exact .inr rfl | assumption) : PDS X W (.Assign [.Name y px] (.Dict [] [] p2) pos) (sOwn i (.dit [] [])) := imp_S (ps_set hN hi hx pe_dnewT hs hf) fun E σ H ⟨fr, F, ρ, n, o, n', R, e, k⟩ => by
  obtain ⟨b1, b2⟩ := M.pure_ok e
  subst b1 b2
  exact fun p hp => k F _ _ (R.setOwn hp rfl ⟨[], rfl, upd_same, .nil⟩) (Sub.refl _)
/-- x.append(e) -/
def uApp (d : D) : D → Option D
  | .lst ds => if ds.length < sizeLine then some (.lst (ds ++ [d])) else none
  | _ => none
theorem S_app {i : Nat} {o e : Expr} {fx : EX} {apos cpos pos : Pos} (he : PD X W e fx) (hp : PE X (.Call (.Attribute o "append" apos) [e] [] cpos) (tBM X.K "list" rAppend (tVar i) (tCons (tD X.K W fx) tNil))) (hs : swapsWith (.Call (.Attribute o "append" apos) [e] [] cpos) none pos.line X.env = pure false := by rfl) : PDS X W (.Expr (.Call (.Attribute o "append" apos) [e] [] cpos) pos) (sUp i uApp fx) := imp_S (ps_expr hp hs) fun E σ H ⟨fr, F, ρ, n, o, n', R, e, k⟩ => by
  obtain ⟨d, a, b, e1, hi, e3, rfl⟩ := sUp_ok e
  unfold uApp at e3
  split at e3
  · split at e3
    · rename_i ds q
      cases e3
      obtain ⟨ad0, s0⟩ := R.slots
      obtain ⟨z1, z2, z3, z4, ⟨zs, z5, z6⟩, z7⟩ := s0.own i _ hi
      refine ⟨_, z1, .inl ⟨rfl, _, SqL.of z5⟩, fr, F, ρ, n, d, _, R, e1, fun F1 H1 v R1 s1 d1 => ?_⟩
      obtain ⟨ad, s⟩ := R1.slots
      obtain ⟨a1, a2, a3, a4, ⟨us, a5, a6⟩, a7⟩ := s.own i _ hi
      have ea : ad i = ad0 i := by rw [a1] at z1; injection z1 with z1; injection z1 with z1; injection z1
      refine ⟨ad i, us, v, by rw [ea], rfl, a5, by rw [a6.length]; exact q, ?_⟩
      exact k F1 _ _ (R1.change s hi ⟨us ++ [v], upd_same, a6.append (.cons d1 .nil)⟩ rfl) s1
    · cases e3
  · cases e3
/-- from here on it is not changed any more -/
def frzE (i : Nat) (ρ : Env) : Option Env := (own? ρ i).bind fun d => if isO d then none else some (ρ.set i (.val d))
def sFrz (i : Nat) : SX := fun ρ => M.bind (M.opt (frzE i ρ)) fun ρ' => M.pure (.nx ρ')
theorem S_frz {i : Nat} {st : List Stmt} {g : SX} (h : PDSs X W st g) : PDSs X W st (sSeq (sFrz i) g) := imp_Ss h fun E σ H ⟨fr, F, ρ, n, o, n', R, e, k⟩ => by
  obtain ⟨o1, n1, e1, h1⟩ := M.bind_ok e
  obtain ⟨ρ1, n2, e2, h2⟩ := M.bind_ok e1
  obtain ⟨e3, e4⟩ := M.opt_ok e2
  obtain ⟨e5, e6⟩ := M.pure_ok h2
  subst e5 e4
  subst e6
  unfold frzE at e3
  cases q : own? ρ i with
  | none => rw [q] at e3; cases e3
  | some d =>
    rw [q] at e3
    have hi := own_some q
    have e3 : (if isO d then none else some (ρ.set i (.val d))) = some ρ1 := e3
    split at e3
    · cases e3
    · rename_i hd
      cases e3
      obtain ⟨ad, s⟩ := R.slots
      have hx : fr.H0 (ad i) = none := by
        obtain ⟨a1, a2, a3, a4, a5, a6⟩ := s.own i _ hi
        rcases a6 with a6 | a6
        · exact absurd a6.1 hd
        · exact a6.2
      obtain ⟨F', s', R'⟩ := R.freeze s hi hx
      exact ⟨fr, F', _, _, o, n', R', h1, k.mono s'⟩
end
end DL
end

section
set_option Elab.async false
set_option linter.all false
set_option autoImplicit false
set_option maxRecDepth 100000
set_option maxHeartbeats 1000000
namespace DL
open PySem PySem.Spec L2
open PyProof.Rows (envOfC)
section
variable {X : Cx} {W : Wd} {x : Str} {p pos : Pos} {e : Expr} {es : List Expr}

/-! ### built-ins -/
def dInts : List D → Option (List Int)
  | [] => some []
  | .int i :: r => match dInts r with | some ns => some (i :: ns) | none => none
  | _ => none
theorem ints_of {K : PySem.W.Frag} {dr : Option Addr} {F : Hp} : ∀ {vs : List V} {ds : List D} {ns : List Int}, Dens K W dr F vs ds → dInts ds = some ns → vs = ns.map V.int
  | _, _, _, .nil, e => by unfold dInts at e; cases e; rfl
  | _, _, _, .cons h r, e => by
    unfold dInts at e
    split at e
    · rename_i q; cases q
    · rename_i q
      split at e
      · cases q; cases e; cases h
        rw [ints_of r ‹_›]; rfl
      · cases e
    · cases e
def dBls : List D → Option (List Bool)
  | [] => some []
  | .bl i :: r => match dBls r with | some ns => some (i :: ns) | none => none
  | _ => none
theorem bls_of {K : PySem.W.Frag} {dr : Option Addr} {F : Hp} : ∀ {vs : List V} {ds : List D} {ns : List Bool}, Dens K W dr F vs ds → dBls ds = some ns → vs = ns.map V.bl
  | _, _, _, .nil, e => by unfold dBls at e; cases e; rfl
  | _, _, _, .cons h r, e => by
    unfold dBls at e
    split at e
    · rename_i q; cases q
    · rename_i q
      split at e
      · cases q; cases e; cases h
        rw [bls_of r ‹_›]; rfl
      · cases e
    · cases e
def dSum : List D → Option D
  | [.lst ds] => match dInts ds with | some ns => some (.int ns.sum) | none => none
  | _ => none
def dAny : List D → Option D
  | [.lst ds] => match dBls ds with | some ns => some (.bl (ns.any id)) | none => none
  | _ => none
def dAll : List D → Option D
  | [.lst ds] => match dBls ds with | some ns => some (.bl (ns.all id)) | none => none
  | _ => none
theorem q_sum {K : PySem.W.Frag} : CallD K W (rSum K) dSum := by
  intro fr F H σ ρ n xs d vs Q R dx h k
  unfold dSum at h
  split at h
  · split at h
    · cases h
      cases dx with
      | cons h1 h2 =>
        cases h2
        cases h1 with
        | lst h3 h4 =>
          have := ints_of h4 ‹_›
          subst this
          exact ⟨_, _, rfl, SqL.of (R.core.sub _ _ h3), k F H _ R (Sub.refl _) (.int _)⟩
    · cases h
  · cases h
theorem q_any {K : PySem.W.Frag} : CallD K W (rAny K) dAny := by
  intro fr F H σ ρ n xs d vs Q R dx h k
  unfold dAny at h
  split at h
  · split at h
    · cases h
      cases dx with
      | cons h1 h2 =>
        cases h2
        cases h1 with
        | lst h3 h4 =>
          have := bls_of h4 ‹_›
          subst this
          exact ⟨_, _, rfl, SqL.of (R.core.sub _ _ h3), k F H _ R (Sub.refl _) (.bl _)⟩
    · cases h
  · cases h
theorem q_all {K : PySem.W.Frag} : CallD K W (rAll K) dAll := by
  intro fr F H σ ρ n xs d vs Q R dx h k
  unfold dAll at h
  split at h
  · split at h
    · cases h
      cases dx with
      | cons h1 h2 =>
        cases h2
        cases h1 with
        | lst h3 h4 =>
          have := bls_of h4 ‹_›
          subst this
          exact ⟨_, _, rfl, SqL.of (R.core.sub _ _ h3), k F H _ R (Sub.refl _) (.bl _)⟩
    · cases h
  · cases h
def dAbs : List D → Option D
  | [.int i] => some (.int (if i < 0 then -i else i))
  | _ => none
theorem q_abs {K : PySem.W.Frag} : CallD K W (fun xs H Q => ∃ i, xs = [.int i] ∧ Q (.int (if i < 0 then -i else i)) H) dAbs := by
  intro fr F H σ ρ n xs d vs Q R dx h k
  unfold dAbs at h
  split at h
  · cases h
    cases dx with
    | cons h1 h2 => cases h2; cases h1; exact ⟨_, rfl, k F H _ R (Sub.refl _) (.int _)⟩
  · cases h
def dMin2 : List D → Option D
  | [.int i, .int j] => some (.int (if j < i then j else i))
  | _ => none
def dMax2 : List D → Option D
  | [.int i, .int j] => some (.int (if j > i then j else i))
  | _ => none
theorem q_min2 {K : PySem.W.Frag} : CallD K W (fun xs H Q => ∃ i j, xs = [.int i, .int j] ∧ Q (.int (if j < i then j else i)) H) dMin2 := by
  intro fr F H σ ρ n xs d vs Q R dx h k
  unfold dMin2 at h
  split at h
  · cases h
    cases dx with
    | cons h1 h2 => cases h2 with
      | cons h2 h3 => cases h3; cases h1; cases h2; exact ⟨_, _, rfl, k F H _ R (Sub.refl _) (.int _)⟩
  · cases h
theorem q_max2 {K : PySem.W.Frag} : CallD K W (fun xs H Q => ∃ i j, xs = [.int i, .int j] ∧ Q (.int (if j > i then j else i)) H) dMax2 := by
  intro fr F H σ ρ n xs d vs Q R dx h k
  unfold dMax2 at h
  split at h
  · cases h
    cases dx with
    | cons h1 h2 => cases h2 with
      | cons h2 h3 => cases h3; cases h1; cases h2; exact ⟨_, _, rfl, k F H _ R (Sub.refl _) (.int _)⟩
  · cases h
def dInt : List D → Option D
  | [.int i] => some (.int i)
  | [.bl b] => some (.int (if b then 1 else 0))
  | _ => none
theorem q_int {K : PySem.W.Frag} : CallD K W (fun xs H Q => (∃ i, xs = [.int i] ∧ Q (.int i) H) ∨ ∃ k, xs = [.bl k] ∧ Q (.int (if k then 1 else 0)) H) dInt := by
  intro fr F H σ ρ n xs d vs Q R dx h k
  unfold dInt at h
  split at h
  · cases h
    cases dx with
    | cons h1 h2 => cases h2; cases h1; exact .inl ⟨_, rfl, k F H _ R (Sub.refl _) (.int _)⟩
  · cases h
    cases dx with
    | cons h1 h2 => cases h2; cases h1; exact .inr ⟨_, rfl, k F H _ R (Sub.refl _) (.int _)⟩
  · cases h
def dTupOf : List D → Option D
  | [.lst ds] => some (.tup ds)
  | [.tup ds] => some (.tup ds)
  | _ => none
theorem q_tupOf {K : PySem.W.Frag} : CallD K W (fun xs H Q => ∃ p ys, xs = [.ref p] ∧ ((SqL K H p ys ∧ ∀ l, H l = none → Q (.ref l) (upd H l (.tup ys))) ∨ (SqT K H p ys ∧ Q (.ref p) H))) dTupOf := by
  intro fr F H σ ρ n xs d vs Q R dx h k
  unfold dTupOf at h
  split at h
  · cases h
    cases dx with
    | cons h1 h2 =>
      cases h2
      cases h1 with
      | lst h3 h4 => exact ⟨_, _, rfl, .inl ⟨SqL.of (R.core.sub _ _ h3), put_tup R h4 k⟩⟩
  · cases h
    cases dx with
    | cons h1 h2 =>
      cases h2
      cases h1 with
      | tup h3 h4 => exact ⟨_, _, rfl, .inr ⟨R.core.sub.sqT h3, k F H _ R (Sub.refl _) (.tup h3 h4)⟩⟩
  · cases h
def dLstOf : List D → Option D
  | [.lst ds] => some (.lst ds)
  | [.tup ds] => some (.lst ds)
  | _ => none
theorem q_lstOf {K : PySem.W.Frag} : CallD K W (fun xs H Q => ∃ p ys, xs = [.ref p] ∧ (SqL K H p ys ∨ SqT K H p ys) ∧ ∀ l, H l = none → Q (.ref l) (upd H l (.lst ys))) dLstOf := by
  intro fr F H σ ρ n xs d vs Q R dx h k
  unfold dLstOf at h
  split at h
  · cases h
    cases dx with
    | cons h1 h2 =>
      cases h2
      cases h1 with
      | lst h3 h4 => exact ⟨_, _, rfl, .inl (SqL.of (R.core.sub _ _ h3)), put_lst R h4 k⟩
  · cases h
    cases dx with
    | cons h1 h2 =>
      cases h2
      cases h1 with
      | tup h3 h4 => exact ⟨_, _, rfl, .inr (R.core.sub.sqT h3), put_lst R h4 k⟩
  · cases h

/-! ### x op= e -/
def sAug (i : Nat) (op : D → D → Option D) (fx : EX) : SX := fun ρ => M.bind (eVar i ρ) fun a => M.bind (fx ρ) fun b => M.bind (M.opt (op a b)) fun d => M.pure (.nx (ρ.set i (.val d)))
theorem S_aug {i : Nat} {y : Str} {f : Int → Int → Int} {fx : EX} {op : Operator} {pos' pos : Pos} (hN : X.N.Nodup) (hi : X.N[i]? = some y) (hx : Loc X.env.scope y) (he : PD X W e fx) (ho : PIp X op (ipI f)) (hf : X.fn y = true ∨ X.env.scope.names.lookup y = some .local := by first | exact .inl rfl | exact .inr rfl | assumption) :
    PDS X W (.AugAssign (.Name y pos') op e pos) (sAug i (dI (fun _ _ => true) fun a b => .int (f a b)) fx) := imp_S (ps_aug hN hi hx he ho hf) fun E σ H ⟨fr, F, ρ, n, o, n', R, e, k⟩ => by
  obtain ⟨a, n1, e1, h1⟩ := M.bind_ok e
  obtain ⟨b, n2, e2, h2⟩ := M.bind_ok h1
  obtain ⟨d, n3, e3, h3⟩ := M.bind_ok h2
  obtain ⟨e4, e5⟩ := M.opt_ok e3
  obtain ⟨e6, e7⟩ := M.pure_ok h3
  obtain ⟨e8, e9⟩ := eVar_some e1
  clear e h1 h2 h3 e3
  subst e9 e6
  subst e7
  subst e5
  obtain ⟨ad, s⟩ := R.slots
  obtain ⟨v, q1, q2⟩ := s.val i a e8
  refine ⟨v, q1, fr, F, ρ, _, b, _, R, e2, fun F1 H1 u R1 s1 d1 => ?_⟩
  unfold dI at e4
  split at e4
  · simp only [if_true] at e4
    cases e4; cases q2; cases d1
    exact ⟨_, _, rfl, rfl, k F1 H1 _ (R1.set (.int _)) s1⟩
  · cases e4

/-! ### the draws -/
/-- the law's script, by its place in the draw -/
def eDrw0 (fx : EX) : EX := fun ρ => M.bind (fx ρ) fun d => match d with
  | .drw => M.pure .scr
  | _ => M.opt none
def eDrw1 (fx : EX) : EX := fun ρ => M.bind (fx ρ) fun d => match d with
  | .drw => fun n => some (.ok (.int n), n)
  | _ => M.opt none
theorem d_drw0 {a : Expr} {fa : EX} {p2 pos : Pos} {jj : Nat} (ha : PD X W a fa) : PD X W (.Subscript a (.Constant (.int 0) jj p2) pos) (eDrw0 fa) := imp_E (pe_ix ix_list ha pe_int (fun _ _ => rfl)) fun σ H Q ⟨fr, F, ρ, n, d, n', R, e, k⟩ => by
  obtain ⟨x, n1, e1, h1⟩ := M.bind_ok e
  refine ⟨fr, F, ρ, n, x, n1, R, e1, fun F1 H1 v R1 s1 d1 => ?_⟩
  split at h1
  · obtain ⟨b1, b2⟩ := M.pure_ok h1
    subst b1 b2
    cases d1 with
    | drw q =>
      obtain ⟨q1, q2, q3⟩ := R1.core.draw _ q
      exact ⟨_, _, 0, .ref fr.sa, rfl, rfl, SqL.of q2, rfl, k F1 H1 _ R1 s1 (.scr q3)⟩
  · cases (M.opt_ok h1).1
theorem d_drw1 {a : Expr} {fa : EX} {p2 pos : Pos} {jj : Nat} (ha : PD X W a fa) : PD X W (.Subscript a (.Constant (.int 1) jj p2) pos) (eDrw1 fa) := imp_E (pe_ix ix_list ha pe_int (fun _ _ => rfl)) fun σ H Q ⟨fr, F, ρ, n, d, n', R, e, k⟩ => by
  obtain ⟨x, n1, e1, h1⟩ := M.bind_ok e
  refine ⟨fr, F, ρ, n, x, n1, R, e1, fun F1 H1 v R1 s1 d1 => ?_⟩
  split at h1
  · cases h1
    cases d1 with
    | drw q =>
      obtain ⟨q1, q2, q3⟩ := R1.core.draw _ q
      exact ⟨_, _, 1, .int _, rfl, rfl, SqL.of q2, rfl, k F1 H1 _ R1 s1 (.int _)⟩
  · cases (M.opt_ok h1).1
def isDrw : D → Bool | .drw => true | _ => false
/-- draw[1] += 1 -/
def sDrw (fx : EX) : SX := fun ρ => M.bind (fx ρ) fun d => if isDrw d then fun n => some (.ok (.nx ρ), n + 1) else M.opt none
def rGetL (K : PySem.W.Frag) : V → V → Hp → VK → Prop := fun x y H Q => ∃ p xs j v, x = .ref p ∧ y = .int ((j : Nat) : Int) ∧ SqL K H p xs ∧ xs[j]? = some v ∧ Q v H
theorem get_list : PGet X (rGetL X.K) := by
  intro pins s σ H x y v u Q I rx ry h
  obtain ⟨p, xs, j, z, rfl, rfl, hq, he, q⟩ := h
  cases rx
  obtain ⟨t, rfl⟩ := ry
  obtain ⟨its, r, pl, hz⟩ := I.list hq
  obtain ⟨w, ew, rw'⟩ := r.get he
  have hl := r.length
  have hn := line63
  have hj : j < its.length := (List.getElem?_eq_some_iff.mp ew).1
  exact wpAny_getItem_list pl.isList (by omega) (by omega) (by simpa using ew) ⟨z, H, I, rw', q⟩
theorem Rel.drawn {K : PySem.W.Frag} {fr : Fr} {F H : Hp} {σ : St} {ρ : Env} {n m : Int} {a : Addr} (r : Rel K W fr F H σ ρ n) (q : fr.dr = some a) : Rel K W fr F (upd H a (.lst [.ref fr.sa, .int m])) σ ρ m := by
  have c := r.core
  obtain ⟨ad, s⟩ := r.slots
  obtain ⟨q1, q2, q3⟩ := c.draw _ q
  refine ⟨⟨fun b u z => ?_, fun b u z z2 z3 => ?_, c.f0, c.new, fun b u z => ?_, fun b z => ?_⟩, ad, s.len, s.val, fun i d z => ?_, s.inj⟩
  · rw [upd_ne (ne_of_none z q1)]; exact c.sub _ _ z
  · rw [upd_ne (fun e => z2 (by rw [e]; exact q))]; exact c.base b u z z2 z3
  · by_cases e : b = a
    · rw [e]; exact ⟨_, upd_same⟩
    · obtain ⟨o', z'⟩ := c.there b u z
      exact ⟨o', by rw [upd_ne e]; exact z'⟩
  · rw [q] at z
    cases z
    exact ⟨q1, upd_same, q3⟩
  · obtain ⟨z1, z2, z3, z4, z5, z6⟩ := s.own i d z
    exact ⟨z1, z2, z3, z4, z5.mono (Sub.refl _) (fun u e => by rw [upd_ne (fun e' => z3 (by rw [e']; exact q))]; exact e), z6⟩
theorem S_drw {a : Expr} {fa : EX} {p2 p3 p4 pos : Pos} {jj kk : Nat} (ha : PD X W a fa) : PDS X W (.AugAssign (.Subscript a (.Constant (.int 1) jj p2) p4) .Add (.Constant (.int 1) kk p3) pos) (sDrw fa) := imp_S (ps_augS ha pe_int get_list pe_int ip_add set_list) fun E σ H ⟨fr, F, ρ, n, o, n', R, e, k⟩ => by
  obtain ⟨x, n1, e1, h1⟩ := M.bind_ok e
  refine ⟨fr, F, ρ, n, x, n1, R, e1, fun F1 H1 v R1 s1 d1 => ?_⟩
  split at h1
  · rename_i hx
    cases h1
    unfold isDrw at hx
    split at hx
    · cases d1 with
      | drw q =>
        obtain ⟨q1, q2, q3⟩ := R1.core.draw _ q
        exact ⟨_, _, 1, _, rfl, rfl, SqL.of q2, rfl, _, _, rfl, rfl, _, _, _, 1, rfl, rfl, q2, rfl, k F1 _ σ (R1.drawn q) s1⟩
    · cases hx
  · cases (M.opt_ok h1).1
/-- the script: is it empty, its length, its items -/
def dScrNil (W : Wd) : D → D → Option D
  | .scr, .lst [] => some (.bl W.ns.isEmpty)
  | _, _ => none
def intsPy (ns : List Int) : List PyData := ns.map PyData.int
theorem dpAll_ints {K : PySem.W.Frag} {H : Hp} : ∀ ns : List Int, DpAll K H (ns.map V.int) (intsPy ns)
  | [] => .nil
  | i :: r => .cons (.int i) (dpAll_ints r)
theorem canLay_ints : ∀ ns : List Int, PyData.canLayAll0 (intsPy ns) = true
  | [] => by unfold intsPy; rfl
  | i :: r => by
    have := canLay_ints r
    unfold intsPy at this ⊢
    rw [List.map_cons]
    unfold PyData.canLayAll0
    rw [this]; unfold PyData.canLay0; rfl
theorem depth_ints : ∀ ns : List Int, PyData.depthAll (intsPy ns) = 0
  | [] => by unfold intsPy; rfl
  | i :: r => by
    have := depth_ints r
    unfold intsPy at this ⊢
    rw [List.map_cons]
    unfold PyData.depthAll
    rw [this]; unfold PyData.depth; rfl
theorem shaped_ints (ns : List Int) : SeqAt.shaped (.list (intsPy ns)) = true := by
  unfold SeqAt.shaped
  unfold PyData.canLay0 PyData.depth
  rw [canLay_ints, depth_ints]; rfl
theorem d_scrNil {a b : Expr} {fa fb : EX} {pos : Pos} (hu : X.A.units + 64 < cLine) (ha : PD X W a fa) (hb : PD X W b fb) : PD X W (.Compare a [.Eq] [b] pos) (e2 (dScrNil W) fa fb) := d_cmp (op_eqD hu) (by
  intro fr F H σ ρ n x y d v u Q R dx dy h k
  unfold dScrNil at h
  split at h
  · cases h
    cases dx with
    | scr h1 =>
      cases dy with
      | lst h2 h3 =>
        cases h3
        refine ⟨.list (intsPy W.ns), .list [], .lst (R.core.sub.sqL h1) (dpAll_ints _), .lst (SqL.of (R.core.sub _ _ h2)) .nil, shaped_ints _, by decide, ?_⟩
        have : PyData.eqv (.list (intsPy W.ns)) (.list []) = W.ns.isEmpty := by
          unfold PyData.eqv
          cases e : W.ns with
          | nil => rfl
          | cons i r => rfl
        rw [this]
        exact k F H _ R (Sub.refl _) (.bl _)
  · cases h) ha hb (nomark _)
def dLenS (W : Wd) : List D → Option D
  | [.scr] => some (.int W.ns.length)
  | _ => none
theorem q_lenS {K : PySem.W.Frag} : CallD K W (fun xs H Q => ∃ x n, xs = [x] ∧ LenV K x H n ∧ Q (.int n) H) (dLenS W) := by
  intro fr F H σ ρ n xs d vs Q R dx h k
  unfold dLenS at h
  split at h
  · cases h
    cases dx with
    | cons h1 h2 =>
      cases h2
      cases h1 with
      | scr h3 => exact ⟨_, W.ns.length, rfl, .inl ⟨_, R.core.sub.sqL h3, by simp⟩, k F H _ R (Sub.refl _) (.int _)⟩
  · cases h
def dIxS (W : Wd) : D → D → Option D
  | .scr, .int i => (atI W.ns i).map D.int
  | _, _ => none
theorem atI_map {α β : Type} (f : α → β) (xs : List α) (i : Int) : atI (xs.map f) i = (atI xs i).map f := by
  unfold atI
  rw [List.length_map]
  cases ixN xs.length i with
  | none => rfl
  | some j => simp
theorem d_ixS {a b : Expr} {fa fb : EX} {pos : Pos} (ha : PD X W a fa) (hb : PD X W b fb) (hs : PlainIx b := by exact fun _ _ => rfl) : PD X W (.Subscript a b pos) (e2 (dIxS W) fa fb) := imp_E (pe_ix ix_list ha hb hs) fun σ H Q h => d_tOp (by
  intro fr F H σ ρ n x y d v u Q R dx dy h k
  unfold dIxS at h
  split at h
  · cases dx with
    | scr h1 =>
      cases dy
      rename_i i _
      cases e : atI W.ns i with
      | none => rw [e] at h; cases h
      | some z =>
        rw [e] at h
        cases h
        exact ⟨_, _, _, .int z, rfl, rfl, R.core.sub.sqL h1, by rw [atI_map, e]; rfl, k F H _ R (Sub.refl _) (.int _)⟩
  · cases h) h

end

/-! ### the law -/
def spLaw (K : PySem.W.Frag) : Sp := fun vs H Q _ => ∃ (a : Addr) (ns : List Int), vs = [.ref a] ∧ SqL K H a (ns.map V.int) ∧ ns.length ≤ 63 ∧ ∀ H', Q (.bl true) H'
/-- the law's first statement is «draw = [script, 0]» -/
theorem okLaw {P : Program} {w : World} {K : PySem.W.Frag} {mg : Str → Option Value} {base : Heap} {x qual : Str} {st : Stmt} {f : Addr} {fd : FuncData} {N : List Str} {k : Nat} {y z : Str} {px py pl p0 pa : Pos} {jj : Nat} {rest : List Stmt} {cl : Nat → Addr} (g : Wd → SX)
    (F : Fun K x qual st f fd) (S : FnScope N [y] (defScope st)) (hbody : defBody st = .Assign [.Name z px] (.List [.Name y py, .Constant (.int 0) jj p0] pl) pa :: rest)
    (first : ∀ (cdv : Value) (A : Around) (outer : List PySem.Env) (s : Shared) (H : Hp) (E : XK), PS (cxOf CX0 P w K mg base N qual (defScope st) f cdv A outer s H E).nox (.Assign [.Name z px] (.List [.Name y py, .Constant (.int 0) jj p0] pl) pa) (tAsg (tLst (tCons (tVar 0) (tCons (tC (.int 0)) tNil))) (gName 1)))
    (body : ∀ (W : Wd), W.cl = cl → ∀ (cdv : Value) (A : Around) (outer : List PySem.Env) (s : Shared) (H : Hp) (E : XK), Room k (A.deeper (envOfC qual (defScope st) s.heap.objs.size f cdv)) → PSs (cxOf CX0 P w K mg base N qual (defScope st) f cdv A outer s H E).nox rest (tS K W (g W)))
    (good : ∀ W : Wd, W.ns.length ≤ 63 → W.cl = cl → ∃ n', g W (.val .scr :: .val .drw :: List.replicate (N.length - 2) Sl.no) 0 = some (.ok (.ret (.bl true)), n')) (hN : 2 ≤ N.length) :
    FnOk P w K mg base CX0 (k + 1) f fd [y] (spLaw K) := by
  refine F.ok S (fun vs H Q E h => ?_) fun cdv A outer s H vs Q E hr h => ?_
  · obtain ⟨a, ns, rfl, _⟩ := h
    rfl
  · obtain ⟨a, ns, rfl, hS, hl, hk⟩ := h
    rw [hbody]
    refine ⟨_, pss_cons (first cdv A outer s H E) (body ⟨cl, ns⟩ rfl cdv A outer s H E hr), ?_⟩
    refine ⟨_, rfl, (by show 2 ≤ sizeLine; decide), fun p hp => ?_⟩
    obtain ⟨n', e⟩ := good ⟨cl, ns⟩ hl rfl
    have hne : p ≠ a ∨ ∃ o, K.lookup a = some o := by
      rcases hS with (h | ⟨o, h⟩) | ⟨o, _, _, h, _⟩
      · exact .inl fun e => by rw [e, h] at hp; cases hp
      · exact .inl fun e => by rw [e, h] at hp; cases hp
      · exact .inr ⟨o, h⟩
    let F0 : Hp := fun b => if b = p then none else if b = a then H a else none
    have fa : ∀ u, F0 a = some u → H a = some u := fun u q => by
      by_cases e : a = p
      · simp [F0, e] at q
      · simpa [F0, e] using q
    have hF : SqL K F0 a (ns.map V.int) := by
      rcases hS with (h | ⟨o, h⟩) | h
      · have : a ≠ p := fun e => by rw [← e, h] at hp; cases hp
        exact .inl (.inl (by simp [F0, this, h]))
      · have : a ≠ p := fun e => by rw [← e, h] at hp; cases hp
        exact .inl (.inr ⟨o, by simp [F0, this, h]⟩)
      · exact .inr h
    have hsub : Sub F0 (upd H p (.lst [.ref a, .int 0])) := fun b u q => by
      by_cases e : b = p
      · simp [F0, e] at q
      · by_cases e2 : b = a
        · subst e2
          rw [upd_ne e]; exact fa u q
        · simp [F0, e, e2] at q
    have c : Core K ⟨cl, ns⟩ ⟨some p, a, upd H p (.lst [.ref a, .int 0]), F0, fun _ => False⟩ F0 (upd H p (.lst [.ref a, .int 0])) 0 :=
      ⟨hsub, fun _ _ h _ _ => h, Sub.refl _, fun _ _ _ h => h, fun _ o h => ⟨o, h⟩, fun b q => by
        cases q
        exact ⟨by simp [F0], upd_same, hF⟩⟩
    refine ⟨_, F0, _, 0, _, n', ⟨c, fun _ => 0, ?_, fun i d q => ?_, fun i d q => ?_, fun i j d d' q _ => ?_⟩, e, fun F' H' v c' s' d' => ?_⟩
    · unfold L2.start
      simp
      omega
    · cases i with
      | zero =>
        cases q
        refine ⟨.ref a, ?_, .scr hF⟩
        show (List.set _ 1 _)[0]? = _
        rw [List.getElem?_set_ne (by decide)]; rfl
      | succ i =>
        cases i with
        | zero =>
          cases q
          refine ⟨.ref p, ?_, .drw rfl⟩
          rw [get_set_self (by unfold L2.start; simp; omega)]
        | succ i =>
          have := List.mem_of_getElem? (show (List.replicate (N.length - 2) Sl.no)[i]? = some (Sl.val d) from q)
          rw [List.mem_replicate] at this
          cases this.2
    · cases i with
      | zero => cases q
      | succ i =>
        cases i with
        | zero => cases q
        | succ i =>
          have := List.mem_of_getElem? (show (List.replicate (N.length - 2) Sl.no)[i]? = some (Sl.own d) from q)
          rw [List.mem_replicate] at this
          cases this.2
    · cases i with
      | zero => cases q
      | succ i =>
        cases i with
        | zero => cases q
        | succ i =>
          have := List.mem_of_getElem? (show (List.replicate (N.length - 2) Sl.no)[i]? = some (Sl.own d) from q)
          rw [List.mem_replicate] at this
          cases this.2
    · cases d'
      exact hk H'
theorem law_walk {l : PySem.W.OpenLaw} {q : Program} {loose : List Str} {XP : (Str → Option Value) → Heap → Prop} {YP : World → Heap → Prop} {d : DefRec} {K : Params → PySem.W.Frag} {k : Nat} {x : Str} (hn : l.most = some 63) (hdf : d.params.defaults = []) (hr : Room k callerA)
    (hY : ∀ (w : World) (h : Heap), YP w h → (K w.params).In h)
    (F : ∀ (w : World) (mg : Str → Option Value) (fa : Addr) (h : Heap), (K w.params).In h → h.Ns mainGlobals mg → mg d.name = some (.ref fa) →
      ∃ fd : FuncData, (∀ (s : Shared) (u : Value), BindsTo s fd ⟨[u], []⟩ [(x, u)]) ∧ ∀ base : Heap, (K w.params).In base → base.Ns mainGlobals mg → FnOk l.prog w (K w.params) mg base CX0 k fa fd [x] (spLaw (K w.params))) :
    PySem.W.WalkO q loose XP YP l.row.toRowW d [] (fun f vs => PySem.call f vs) :=
  L2.walk_of (n := 63) (k := k) (x := x) (CX := fun _ => CX0) (sp := fun w => spLaw (K w.params)) hn (by decide) hdf hr hY F (fun _ _ a ns hl _ hS => ⟨a, ns, rfl, hS, hl, fun _ => rfl⟩) fun _ _ _ _ _ z => z
end DL
end

section
set_option Elab.async false
set_option linter.all false
set_option autoImplicit false
set_option maxRecDepth 100000
set_option maxHeartbeats 1000000
namespace DL
open PySem PySem.Spec L2
/-! ### callees, bundled -/
def Cal (P : Program) (w : World) (K : PySem.W.Frag) (mg : Str → Option Value) (base : Heap) (x : Str) (k : Nat) (sp : Sp) : Prop :=
  ∃ f fd ps, FnOk P w K mg base CX0 k f fd ps sp ∧ mg x = some (.ref f) ∧ PySem.W.keepIn K (.ref f) = true ∧ Binds K fd ps []
def CalM (P : Program) (w : World) (K : PySem.W.Frag) (mg : Str → Option Value) (base : Heap) (C : Addr) (m : Str) (k : Nat) (sp : Sp) : Prop :=
  ∃ f fd ps, FnOk P w K mg base CX0 k f fd ps sp ∧ Meth K C m f ∧ Binds K fd ps []
def CalI (P : Program) (w : World) (K : PySem.W.Frag) (mg : Str → Option Value) (base : Heap) (C : Addr) (x : Str) (k : Nat) (sp : Sp) : Prop :=
  ∃ f fd ps, FnOk P w K mg base CX0 k f fd ps sp ∧ Mk K C f ∧ mg x = some (.ref C) ∧ Binds K fd ps []
section
variable {X : Cx} {W : Wd} {k : Nat} {x m : Str} {p pos apos : Pos} {e o : Expr} {es : List Expr} {fx : FX} {fo : EX} {fs : EXs} {mm c : Nat} {pl : Sem Bool}
theorem c_call (F : Cal X.prog X.w X.K X.mg X.base x k (spD X.K W fx mm)) (hr : Room k X.A) (hg : Gl X x)
    (ha : PDs X W (e :: es) fs) (hl : ∀ ρ n ds n', fs ρ n = some (.ok ds, n') → ds.length = mm) (hdb : (x == ("__debug__" : Str)) = false := by decide) (he : starEach (e :: es) X.env = (false, eval e X.env) :: starEach es X.env := by rfl) (hpl : (backTo pos (starEach es X.env)).any (·.1) = false := by rfl) :
    PD X W (.Call (.Name x p) (e :: es) [] pos) (eCall fx fs) := by
  obtain ⟨f, fd, ps, h1, h2, h3, h4⟩ := F
  exact d_call h1 hr hg h2 h3 h4 ha hl hdb he hpl
theorem c_call0 (F : Cal X.prog X.w X.K X.mg X.base x k (spD X.K W fx 0)) (hr : Room k X.A) (hg : Gl X x) (hdb : (x == ("__debug__" : Str)) = false := by decide) :
    PD X W (.Call (.Name x p) [] [] pos) (eCall fx eNil) := by
  obtain ⟨f, fd, ps, h1, h2, h3, h4⟩ := F
  exact d_call0 h1 hr hg h2 h3 h4 hdb
theorem c_meth (F : CalM X.prog X.w X.K X.mg X.base (W.cl c) m k (spD X.K W fx (mm + 1))) (hr : Room k X.A) (cl : Cls X.K (W.cl c)) (ho : PD X W o fo) (ha : PDs X W (e :: es) fs) (hl : ∀ ρ n ds n', fs ρ n = some (.ok ds, n') → ds.length = mm)
    (hst : starEach (e :: es) X.env = (false, eval e X.env) :: starEach es X.env := by rfl) (hpl : (backTo pos (starEach es X.env)).any (·.1) = false := by rfl)
    (ht : eval (.Call (.Attribute o m apos) (e :: es) [] pos) X.env = (do
      let ov ← eval o X.env
      standAt apos.atName
      let (f, first) ← holding [ov] (getMethod ov m pl)
      callWith pos f first (backTo pos (starEach (e :: es) X.env)) (backToKw pos (keywordEach [] X.env))) := by rfl) :
    PD X W (.Call (.Attribute o m apos) (e :: es) [] pos) (eMeth c m fx fo fs) := by
  obtain ⟨f, fd, ps, h1, h2, h4⟩ := F
  exact d_meth ho cl h2 h1 hr h4 ha hl hst hpl ht
theorem c_meth0 (F : CalM X.prog X.w X.K X.mg X.base (W.cl c) m k (spD X.K W fx 1)) (hr : Room k X.A) (cl : Cls X.K (W.cl c)) (ho : PD X W o fo)
    (ht : eval (.Call (.Attribute o m apos) [] [] pos) X.env = (do
      let ov ← eval o X.env
      standAt apos.atName
      let (f, first) ← holding [ov] (getMethod ov m pl)
      callWith pos f first (backTo pos (starEach [] X.env)) (backToKw pos (keywordEach [] X.env))) := by rfl) :
    PD X W (.Call (.Attribute o m apos) [] [] pos) (eMeth c m fx fo eNil) := by
  obtain ⟨f, fd, ps, h1, h2, h4⟩ := F
  exact d_meth0 ho cl h2 h1 hr h4 ht
theorem c_make (F : CalI X.prog X.w X.K X.mg X.base (W.cl c) x k (spI X.K W fx c mm)) (hr : Room (k + 1) X.A) (hg : Gl X x)
    (ha : PDs X W (e :: es) fs) (hl : ∀ ρ n ds n', fs ρ n = some (.ok ds, n') → ds.length = mm) (hdb : (x == ("__debug__" : Str)) = false := by decide) (he : starEach (e :: es) X.env = (false, eval e X.env) :: starEach es X.env := by rfl) (hpl : (backTo pos (starEach es X.env)).any (·.1) = false := by rfl) :
    PD X W (.Call (.Name x p) (e :: es) [] pos) (eMake c fx fs) := by
  obtain ⟨f, fd, ps, h1, h2, h3, h4⟩ := F
  exact d_make h2 h1 hr hg h3 h4 ha hl hdb he hpl
/-! ### comparisons as tests -/
variable {a b : Expr} {fa fb : EX} {j : Nat} {q : Pos}
theorem t_of {o : CmpOp} {r : R2} {op : D → D → Option D} (ho : OpR X (compareOp o) r) (hd : Op2 X.K W r op) (ha : PD X W a fa) (hb : PD X W b fb) (hm : behindInMarks o b = false) : PDT X W (.Compare a [o] [b] pos) (tB (e2 op fa fb)) := t_cmp ho hd ha hb hm
theorem q_lt {K : PySem.W.Frag} : Op2 K W (fun x y H Q => (rI0 fun i j => .bl (decide (i < j))) x y H Q ∨ (∃ i j, x = .str i ∧ y = .str j ∧ Q (.bl (decide (i.cps.toList < j.cps.toList))) H)) dLt := by
  intro fr F H σ ρ n x y d v u Q R dx dy h k
  unfold dLt at h
  split at h
  · cases dx; cases dy; cases h
    exact .inl ⟨_, _, rfl, rfl, k F H _ R (Sub.refl _) (.bl _)⟩
  · cases dx; cases dy; cases h
    exact .inr ⟨_, _, rfl, rfl, k F H _ R (Sub.refl _) (.bl _)⟩
  · cases h
theorem q_eq {K : PySem.W.Frag} : Op2 K W (rEqD K) dEq := by
  intro fr F H σ ρ n x y d v u Q R dx dy h k
  unfold dEq at h
  split at h
  · cases h
    obtain ⟨p, q, h1, h2, h3, h4, rfl⟩ := dEqB_ok ‹_›
    exact ⟨p, q, dp_of R.core.sub dx h1, dp_of R.core.sub dy h2, h3, h4, k F H _ R (Sub.refl _) (.bl _)⟩
  · cases h
theorem q_ne {K : PySem.W.Frag} : Op2 K W (rNeD K) dNe := by
  intro fr F H σ ρ n x y d v u Q R dx dy h k
  unfold dNe at h
  split at h
  · cases h
    obtain ⟨p, q, h1, h2, h3, h4, rfl⟩ := dEqB_ok ‹_›
    exact ⟨p, q, dp_of R.core.sub dx h1, dp_of R.core.sub dy h2, h3, h4, k F H _ R (Sub.refl _) (.bl _)⟩
  · cases h
theorem q_scrNil {K : PySem.W.Frag} : Op2 K W (rEqD K) (dScrNil W) := by
  intro fr F H σ ρ n x y d v u Q R dx dy h k
  unfold dScrNil at h
  split at h
  · cases h
    cases dx with
    | scr h1 =>
      cases dy with
      | lst h2 h3 =>
        cases h3
        refine ⟨.list (intsPy W.ns), .list [], .lst (R.core.sub.sqL h1) (dpAll_ints _), .lst (SqL.of (R.core.sub _ _ h2)) .nil, shaped_ints _, by decide, ?_⟩
        have : PyData.eqv (.list (intsPy W.ns)) (.list []) = W.ns.isEmpty := by
          unfold PyData.eqv
          cases e : W.ns with
          | nil => rfl
          | cons i r => rfl
        rw [this]
        exact k F H _ R (Sub.refl _) (.bl _)
  · cases h
theorem q_CI {K : PySem.W.Frag} (p : Int → Int → Bool) : Op2 K W (rI0 fun i j => .bl (p i j)) (dCI p) := q_I0 fun _ _ _ _ _ _ => .bl _
theorem t_lt (ha : PD X W a fa) (hb : PD X W b fb) : PDT X W (.Compare a [.Lt] [b] pos) (tB (e2 dLt fa fb)) := t_cmp (op_lt.or op_lt_str) q_lt ha hb (nomark _)
theorem t_le (ha : PD X W a fa) (hb : PD X W b fb) : PDT X W (.Compare a [.LtE] [b] pos) (tB (e2 dLe fa fb)) := t_cmp op_le (q_CI _) ha hb (nomark _)
theorem t_gt (ha : PD X W a fa) (hb : PD X W b fb) : PDT X W (.Compare a [.Gt] [b] pos) (tB (e2 dGt fa fb)) := t_cmp op_gt (q_CI _) ha hb (nomark _)
theorem t_ge (ha : PD X W a fa) (hb : PD X W b fb) : PDT X W (.Compare a [.GtE] [b] pos) (tB (e2 dGe fa fb)) := t_cmp op_ge (q_CI _) ha hb (nomark _)
theorem t_eq (hu : X.A.units + 64 < cLine) (ha : PD X W a fa) (hb : PD X W b fb) : PDT X W (.Compare a [.Eq] [b] pos) (tB (e2 dEq fa fb)) := t_cmp (op_eqD hu) q_eq ha hb (nomark _)
theorem t_ne (hu : X.A.units + 64 < cLine) (ha : PD X W a fa) (hb : PD X W b fb) : PDT X W (.Compare a [.NotEq] [b] pos) (tB (e2 dNe fa fb)) := t_cmp (op_neD hu) q_ne ha hb (nomark _)
theorem t_scrNil (hu : X.A.units + 64 < cLine) (ha : PD X W a fa) (hb : PD X W b fb) : PDT X W (.Compare a [.Eq] [b] pos) (tB (e2 (dScrNil W) fa fb)) := t_cmp (op_eqD hu) q_scrNil ha hb (nomark _)
theorem t_isN (ha : PD X W a fa) : PDT X W (.Compare a [.Is] [.Constant .none j q] pos) (tB (e1 (fun d => some (.bl (isNon d))) fa)) := imp_T (pt_cmp (pc_isN ha) rfl) fun σ H Q ⟨fr, F, ρ, n, b, n', R, e, k⟩ => by
  obtain ⟨x, n1, h1, h⟩ := M.bind_ok e
  obtain ⟨y, n2, h3, h4⟩ := M.bind_ok h1
  obtain ⟨h5, h6⟩ := M.opt_ok h4
  obtain ⟨h7, h8⟩ := M.opt_ok h
  subst h6
  cases h5
  cases h7
  subst h8
  exact ⟨fr, F, ρ, n, y, _, R, h3, fun F1 H1 v R1 s1 d1 => ⟨_, rfl, by rw [isNon_of d1]; exact k F1 H1 R1 s1⟩⟩
theorem t_notN (ha : PD X W a fa) : PDT X W (.Compare a [.IsNot] [.Constant .none j q] pos) (tB (e1 (fun d => some (.bl (!isNon d))) fa)) := imp_T (pt_cmp (pc_notN ha) rfl) fun σ H Q ⟨fr, F, ρ, n, b, n', R, e, k⟩ => by
  obtain ⟨x, n1, h1, h⟩ := M.bind_ok e
  obtain ⟨y, n2, h3, h4⟩ := M.bind_ok h1
  obtain ⟨h5, h6⟩ := M.opt_ok h4
  obtain ⟨h7, h8⟩ := M.opt_ok h
  subst h6
  cases h5
  cases h7
  subst h8
  exact ⟨fr, F, ρ, n, y, _, R, h3, fun F1 H1 v R1 s1 d1 => ⟨_, rfl, by rw [isNon_of d1]; exact k F1 H1 R1 s1⟩⟩
end
end DL
end

section
set_option Elab.async false
set_option linter.all false
set_option autoImplicit false
set_option maxRecDepth 100000
set_option maxHeartbeats 400000
/-! printed by gen.py -/
namespace P_k11_whole_families
open PySem PySem.Spec L2 DL
def g_root_of : SX := (sSeq (sFor (gV 1) (iRng2D (eCons (eC (.int 1)) (eCons (e2 dAdd (eB dLen (eCons (eVar 0) eNil)) (eC (.int 1))) eNil))) (sIf (tAndD (tB (e2 dEq (e2 dMod (eB dLen (eCons (eVar 0) eNil)) (eVar 1)) (eC (.int 0)))) (tB (e2 dEq (e2 dAdd (eCut (eVar 0) (oSome (eVar 1)) oNone) (eCut (eVar 0) oNone (oSome (eVar 1)))) (eVar 0)))) (sRet (eCut (eVar 0) oNone (oSome (eVar 1)))) sNx))
  (sRet (eVar 0)))
def f_root_of : FX := runD 2 1 (g_root_of)
def g_Family___init__ : SX := (sSeq (sAsg (gV 4) (eCall (f_root_of) (eCons (eVar 2) eNil)))
  (sSeq (sPar [5, 6] (eCons (e2 dDiv (eB dLen (eCons (eVar 2) eNil)) (eB dLen (eCons (eVar 4) eNil))) (eCons (eC (.int 0)) eNil)))
  (sSeq (sWhile (fun _ => 1000000) (tAndD (tB (e2 dNe (eVar 1) (eTup eNil))) (tB (e2 dEq (e2 dIx (eVar 1) (e1 dNeg (eC (.int 1)))) (e2 dIx (eVar 4) (e1 dNeg (eC (.int 1))))))) (sPar [1, 3, 4] (eCons (eCut (eVar 1) oNone (oSome (e1 dNeg (eC (.int 1))))) (eCons (e2 dAdd (eCut (eVar 4) (oSome (e1 dNeg (eC (.int 1)))) oNone) (eVar 3)) (eCons (e2 dAdd (eCut (eVar 4) (oSome (e1 dNeg (eC (.int 1)))) oNone) (eCut (eVar 4) oNone (oSome (e1 dNeg (eC (.int 1)))))) eNil)))))
  (sSeq (sWhile (fun _ => 1000000) (tB (e2 dEq (eCut (eVar 3) oNone (oSome (eB dLen (eCons (eVar 4) eNil)))) (eVar 4))) (sPar [3, 6] (eCons (eCut (eVar 3) (oSome (eB dLen (eCons (eVar 4) eNil))) oNone) (eCons (e2 dAdd (eVar 6) (eC (.int 1))) eNil))))
  (sSeq (sUp 0 (uFld 0 "left") (eVar 1))
  (sSeq (sUp 0 (uFld 0 "core") (eVar 4))
  (sSeq (sUp 0 (uFld 0 "right") (eVar 3))
  (sSeq (sUp 0 (uFld 0 "rate") (eVar 5))
  (sUp 0 (uFld 0 "more") (eVar 6))))))))))
def f_Family___init__ : FX := runI 7 4 0 (g_Family___init__)
def g_Family_told : SX := (sRet (eTup (eCons (e1 (dFld 0 "left") (eVar 0)) (eCons (e1 (dFld 0 "core") (eVar 0)) (eCons (e1 (dFld 0 "right") (eVar 0)) eNil)))))
def f_Family_told : FX := runD 1 1 (g_Family_told)
def g_Family_rounds : SX := (sRet (e2 dAdd (e2 dMul (e1 (dFld 0 "rate") (eVar 0)) (eVar 1)) (e1 (dFld 0 "more") (eVar 0))))
def f_Family_rounds : FX := runD 2 2 (g_Family_rounds)
def g_Family_word : SX := (sRet (e2 dAdd (e2 dAdd (e1 (dFld 0 "left") (eVar 0)) (e2 dMul (e1 (dFld 0 "core") (eVar 0)) (eMeth 0 "rounds" (f_Family_rounds) (eVar 0) (eCons (eVar 1) eNil)))) (e1 (dFld 0 "right") (eVar 0))))
def f_Family_word : FX := runD 2 2 (g_Family_word)
def g_Family_length : SX := (sRet (e2 dAdd (e2 dAdd (eB dLen (eCons (e1 (dFld 0 "left") (eVar 0)) eNil)) (e2 dMul (eB dLen (eCons (e1 (dFld 0 "core") (eVar 0)) eNil)) (eMeth 0 "rounds" (f_Family_rounds) (eVar 0) (eCons (eVar 1) eNil)))) (eB dLen (eCons (e1 (dFld 0 "right") (eVar 0)) eNil))))
def f_Family_length : FX := runD 2 2 (g_Family_length)
def g_Family_of_length : SX := (sSeq (sAsg (gV 2) (e2 dSub (e2 dSub (eVar 1) (eB dLen (eCons (e1 (dFld 0 "left") (eVar 0)) eNil))) (eB dLen (eCons (e1 (dFld 0 "right") (eVar 0)) eNil))))
  (sSeq (sIf (tOrD (tB (e2 dLt (eVar 2) (eC (.int 0)))) (tB (e2 dNe (e2 dMod (eVar 2) (eB dLen (eCons (e1 (dFld 0 "core") (eVar 0)) eNil))) (eC (.int 0))))) (sRet (eC .non)) sNx)
  (sRet (e2 dAdd (e2 dAdd (e1 (dFld 0 "left") (eVar 0)) (e2 dMul (e1 (dFld 0 "core") (eVar 0)) (e2 dDiv (eVar 2) (eB dLen (eCons (e1 (dFld 0 "core") (eVar 0)) eNil))))) (e1 (dFld 0 "right") (eVar 0))))))
def f_Family_of_length : FX := runD 3 2 (g_Family_of_length)
def g_family_of : SX := (sRet (eMake 0 (f_Family___init__) (eCons (e2 dIx (eVar 0) (eC (.int 0))) (eCons (e2 dIx (eVar 0) (eC (.int 1))) (eCons (e2 dIx (eVar 0) (eC (.int 2))) eNil)))))
def f_family_of : FX := runD 1 1 (g_family_of)
def g_same_family : SX := (sRet (eAnd (e2 dEq (eMeth 0 "told" (f_Family_told) (eVar 0) eNil) (eMeth 0 "told" (f_Family_told) (eVar 1) eNil)) (e2 dEq (eTup (eCons (e1 (dFld 0 "rate") (eVar 0)) (eCons (e1 (dFld 0 "more") (eVar 0)) eNil))) (eTup (eCons (e1 (dFld 0 "rate") (eVar 1)) (eCons (e1 (dFld 0 "more") (eVar 1)) eNil))))))
def f_same_family : FX := runD 2 2 (g_same_family)
def g_first_unlike : SX := (sSeq (sIf (tTru (eCall (f_same_family) (eCons (eVar 0) (eCons (eVar 1) eNil)))) (sRet (eC .non)) sNx)
  (sSeq (sAsg (gV 2) (eC (.int 0)))
  (sSeq (sWhile (fun _ => 1000000) (tB (e2 dEq (eMeth 0 "word" (f_Family_word) (eVar 0) (eCons (eVar 2) eNil)) (eMeth 0 "word" (f_Family_word) (eVar 1) (eCons (eVar 2) eNil)))) (sAug 2 (dI (fun _ _ => true) fun a b => .int (a + b)) (eC (.int 1))))
  (sRet (eVar 2)))))
def f_first_unlike : FX := runD 3 2 (g_first_unlike)
def g__law_number (W : Wd) : SX := (sSeq (sIf (tB (e2 (dScrNil W) (eVar 0) (eLst eNil))) (sRet (eB dInt (eCons (e2 dMod (e2 dAdd (e2 dMul (eVar 1) (eC (.int 48271))) (eC (.int 12345))) (eC (.int 2147483647))) eNil))) sNx)
  (sSeq (sAsg (gV 2) (e2 (dIxS W) (eVar 0) (e2 dMod (eVar 1) (eB (dLenS W) (eCons (eVar 0) eNil)))))
  (sSeq (sIf (tB (e2 dGe (eB dAbs (eCons (eVar 2) eNil)) (e2 dPow (eC (.int 10)) (eC (.int 60))))) (sAsg (gV 2) (e2 dMod (eVar 2) (e2 dPow (eC (.int 10)) (eC (.int 18))))) sNx)
  (sSeq (sAsg (gV 3) (e2 dMod (e2 dAdd (e2 dMul (e2 dAdd (eVar 2) (e2 dMul (eC (.int 977)) (eVar 1))) (eC (.int 48271))) (e2 dMul (eC (.int 31)) (eB (dLenS W) (eCons (eVar 0) eNil)))) (eC (.int 2147483647))))
  (sRet (eB dInt (eCons (e2 dMod (e2 dAdd (e2 dMul (e2 dMod (e2 dMul (eVar 3) (eC (.int 69621))) (eC (.int 2147483629))) (eC (.int 16807))) (eVar 1)) (eC (.int 2147483587))) eNil)))))))
def f__law_number (W : Wd) : FX := runD 4 2 (g__law_number W)
def g__law_take (W : Wd) : SX := (sSeq (sDrw (eVar 0))
  (sRet (e2 dMod (eB dInt (eCons (eCall (f__law_number W) (eCons (eDrw0 (eVar 0)) (eCons (eB dInt (eCons (eDrw1 (eVar 0)) eNil)) eNil))) eNil)) (eVar 1))))
def f__law_take (W : Wd) : FX := runD 2 2 (g__law_take W)
def g__law_pick (W : Wd) : SX := (sRet (e2 dIx (eVar 1) (eCall (f__law_take W) (eCons (eVar 0) (eCons (eB dLen (eCons (eVar 1) eNil)) eNil)))))
def f__law_pick (W : Wd) : FX := runD 2 2 (g__law_pick W)
def g__law_small_word (W : Wd) : SX := (sRet (eB dTupOf (eCons (eComp [2] (gV 2) (iRng1D (eCons (eCall (f__law_take W) (eCons (eVar 0) (eCons (e2 dAdd (eVar 1) (eC (.int 1))) eNil))) eNil)) tYesD (eTup (eCons (eCall (f__law_pick W) (eCons (eVar 0) (eCons (eLst (eCons (eC (.str "k")) (eCons (eC (.str "p")) (eCons (eC (.str "k")) eNil)))) eNil))) (eCons (eC (.str "a")) eNil)))) eNil)))
def f__law_small_word (W : Wd) : FX := runD 3 2 (g__law_small_word W)
def g__law_is_power : SX := (sSeq (sFor (gV 1) (iRng2D (eCons (eC (.int 1)) (eCons (eB dLen (eCons (eVar 0) eNil)) eNil))) (sIf (tAndD (tB (e2 dEq (e2 dMod (eB dLen (eCons (eVar 0) eNil)) (eVar 1)) (eC (.int 0)))) (tB (e2 dEq (e2 dMul (eCut (eVar 0) oNone (oSome (eVar 1))) (e2 dDiv (eB dLen (eCons (eVar 0) eNil)) (eVar 1))) (eVar 0)))) (sRet (eC (.bl true))) sNx))
  (sRet (eC (.bl false))))
def f__law_is_power : FX := runD 2 1 (g__law_is_power)
def g__law_other (W : Wd) : SX := (sSeq (sAsg (gV 4) (eCall (f__law_take W) (eCons (eVar 0) (eCons (eC (.int 5)) eNil))))
  (sSeq (sIf (tB (e2 dEq (eVar 4) (eC (.int 0)))) (sRet (eTup (eCons (e2 dAdd (eVar 1) (eCut (eVar 2) oNone (oSome (eC (.int 1))))) (eCons (e2 dAdd (eCut (eVar 2) (oSome (eC (.int 1))) oNone) (eCut (eVar 2) oNone (oSome (eC (.int 1))))) (eCons (eIf (tB (e2 dEq (eCut (eVar 3) oNone (oSome (eC (.int 1)))) (eCut (eVar 2) oNone (oSome (eC (.int 1)))))) (eCut (eVar 3) (oSome (eC (.int 1))) oNone) (eVar 3)) eNil))))) sNx)
  (sSeq (sIf (tAndD (tB (e2 dEq (eVar 4) (eC (.int 1)))) (tAndD (tB (e2 dNe (eVar 1) (eTup eNil))) (tB (e2 dEq (e2 dIx (eVar 1) (e1 dNeg (eC (.int 1)))) (e2 dIx (eVar 2) (e1 dNeg (eC (.int 1)))))))) (sRet (eTup (eCons (eCut (eVar 1) oNone (oSome (e1 dNeg (eC (.int 1))))) (eCons (e2 dAdd (eCut (eVar 2) (oSome (e1 dNeg (eC (.int 1)))) oNone) (eCut (eVar 2) oNone (oSome (e1 dNeg (eC (.int 1)))))) (eCons (e2 dAdd (eCut (eVar 2) (oSome (e1 dNeg (eC (.int 1)))) oNone) (eVar 3)) eNil))))) sNx)
  (sSeq (sIf (tB (e2 dEq (eVar 4) (eC (.int 2)))) (sRet (eTup (eCons (e2 dAdd (eVar 1) (eVar 2)) (eCons (eVar 2) (eCons (eVar 3) eNil))))) sNx)
  (sSeq (sIf (tB (e2 dEq (eVar 4) (eC (.int 3)))) (sRet (eTup (eCons (eVar 1) (eCons (eVar 2) (eCons (e2 dAdd (eVar 2) (eVar 3)) eNil))))) sNx)
  (sRet (eTup (eCons (eVar 1) (eCons (e2 dAdd (eVar 2) (eVar 2)) (eCons (eVar 3) eNil))))))))))
def f__law_other (W : Wd) : FX := runD 5 4 (g__law_other W)
def g_law (W : Wd) : SX := (sSeq (sFor (gV 2) (iRng1D (eCons (eC (.int 4)) eNil)) (sSeq (sAsg (gT (gsC (gV 3) (gsC (gV 4) gsN))) (eTup (eCons (eCall (f__law_small_word W) (eCons (eVar 1) (eCons (eC (.int 5)) eNil))) (eCons (eCall (f__law_small_word W) (eCons (eVar 1) (eCons (eC (.int 5)) eNil))) eNil))))
  (sSeq (sAsg (gV 5) (e2 dAdd (eCall (f__law_small_word W) (eCons (eVar 1) (eCons (eC (.int 3)) eNil))) (eTup (eCons (eTup (eCons (eC (.str "p")) (eCons (eC (.str "a")) eNil))) eNil))))
  (sSeq (sIf (tB (e2 dEq (eCall (f__law_take W) (eCons (eVar 1) (eCons (eC (.int 3)) eNil))) (eC (.int 0)))) (sAsg (gV 5) (e2 dAdd (eVar 5) (eVar 5))) sNx)
  (sSeq (sAsg (gV 6) (eMake 0 (f_Family___init__) (eCons (eVar 3) (eCons (eVar 5) (eCons (eVar 4) eNil)))))
  (sSeq (sFor (gV 7) (iRng1D (eCons (eC (.int 6)) eNil)) (sSeq (sAsg (gV 8) (e2 dAdd (e2 dAdd (eVar 3) (e2 dMul (eVar 5) (eVar 7))) (eVar 4)))
  (sSeq (sIf (tOrD (tB (e2 dNe (eMeth 0 "word" (f_Family_word) (eVar 6) (eCons (eVar 7) eNil)) (eVar 8))) (tB (e2 dNe (e2 dAdd (e2 dAdd (e1 (dFld 0 "left") (eVar 6)) (e2 dMul (e1 (dFld 0 "core") (eVar 6)) (e2 dAdd (e2 dMul (e1 (dFld 0 "rate") (eVar 6)) (eVar 7)) (e1 (dFld 0 "more") (eVar 6))))) (e1 (dFld 0 "right") (eVar 6))) (eVar 8)))) (sRet (eC (.bl false))) sNx)
  (sIf (tOrD (tB (e2 dNe (eMeth 0 "length" (f_Family_length) (eVar 6) (eCons (eVar 7) eNil)) (eB dLen (eCons (eVar 8) eNil)))) (tB (e2 dNe (eMeth 0 "of_length" (f_Family_of_length) (eVar 6) (eCons (eB dLen (eCons (eVar 8) eNil)) eNil)) (eVar 8)))) (sRet (eC (.bl false))) sNx))))
  (sSeq (sIf (tOrD (tTru (eCall (f__law_is_power) (eCons (e1 (dFld 0 "core") (eVar 6)) eNil))) (tOrD (tB (e2 dEq (eCut (e1 (dFld 0 "left") (eVar 6)) (oSome (e1 dNeg (eC (.int 1)))) oNone) (eCut (e1 (dFld 0 "core") (eVar 6)) (oSome (e1 dNeg (eC (.int 1)))) oNone))) (tB (e2 dEq (eCut (e1 (dFld 0 "right") (eVar 6)) oNone (oSome (eB dLen (eCons (e1 (dFld 0 "core") (eVar 6)) eNil)))) (e1 (dFld 0 "core") (eVar 6)))))) (sRet (eC (.bl false))) sNx)
  (sSeq (sIf (tAndD (tB (e1 (fun d => some (.bl (!isNon d))) (eMeth 0 "of_length" (f_Family_of_length) (eVar 6) (eCons (e2 dAdd (e2 dAdd (e2 dAdd (eB dLen (eCons (e1 (dFld 0 "left") (eVar 6)) eNil)) (eB dLen (eCons (e1 (dFld 0 "right") (eVar 6)) eNil))) (eB dLen (eCons (e1 (dFld 0 "core") (eVar 6)) eNil))) (eC (.int 1))) eNil)))) (tB (e2 dGt (eB dLen (eCons (e1 (dFld 0 "core") (eVar 6)) eNil)) (eC (.int 1))))) (sRet (eC (.bl false))) sNx)
  (sSeq (sAsg (gV 9) (eIf (tB (e2 dGt (eCall (f__law_take W) (eCons (eVar 1) (eCons (eC (.int 3)) eNil))) (eC (.int 0)))) (eCall (f__law_other W) (eCons (eVar 1) (eCons (eVar 3) (eCons (eVar 5) (eCons (eVar 4) eNil))))) (eTup (eCons (eCall (f__law_small_word W) (eCons (eVar 1) (eCons (eC (.int 3)) eNil))) (eCons (eVar 5) (eCons (eVar 4) eNil))))))
  (sSeq (sAsg (gV 10) (eMake 0 (f_Family___init__) (eCons (e2 dIx (eVar 9) (eC (.int 0))) (eCons (e2 dIx (eVar 9) (eC (.int 1))) (eCons (e2 dIx (eVar 9) (eC (.int 2))) eNil)))))
  (sSeq (sAsg (gV 11) (eComp [7] (gV 7) (iRng1D (eCons (eC (.int 13)) eNil)) (tB (e2 dNe (e2 dAdd (e2 dAdd (e2 dIx (eVar 9) (eC (.int 0))) (e2 dMul (e2 dIx (eVar 9) (eC (.int 1))) (eVar 7))) (e2 dIx (eVar 9) (eC (.int 2)))) (e2 dAdd (e2 dAdd (eVar 3) (e2 dMul (eVar 5) (eVar 7))) (eVar 4)))) (eVar 7)))
  (sSeq (sIf (tOrD (tB (e2 dNe (eCall (f_same_family) (eCons (eVar 6) (eCons (eVar 10) eNil))) (e2 dEq (eVar 11) (eLst eNil)))) (tB (e2 dNe (eCall (f_first_unlike) (eCons (eVar 6) (eCons (eVar 10) eNil))) (eIf (tB (e2 dNe (eVar 11) (eLst eNil))) (e2 dIx (eVar 11) (eC (.int 0))) (eC .non))))) (sRet (eC (.bl false))) sNx)
  (sSeq (sAsg (gV 12) (eCall (f_family_of) (eCons (eTup (eCons (eVar 3) (eCons (eVar 5) (eCons (eVar 4) eNil)))) eNil)))
  (sIf (tB (e2 dNe (eTup (eCons (e1 (dFld 0 "left") (eVar 12)) (eCons (e1 (dFld 0 "core") (eVar 12)) (eCons (e1 (dFld 0 "right") (eVar 12)) (eCons (e1 (dFld 0 "rate") (eVar 12)) (eCons (e1 (dFld 0 "more") (eVar 12)) eNil)))))) (eTup (eCons (e1 (dFld 0 "left") (eVar 6)) (eCons (e1 (dFld 0 "core") (eVar 6)) (eCons (e1 (dFld 0 "right") (eVar 6)) (eCons (e1 (dFld 0 "rate") (eVar 6)) (eCons (e1 (dFld 0 "more") (eVar 6)) eNil)))))))) (sRet (eC (.bl false))) sNx))))))))))))))
  (sRet (eC (.bl true))))
end P_k11_whole_families
namespace P_k11_whole_families
open PySem PySem.Spec L2 DL
open PyProof.Rows (envOfC)
def top (i : Nat) : Stmt := PySem.Challenge.pw_allstitches_k11_whole_families.main.body.getD i (.Pass ⟨0, 0, 0, 0⟩)
abbrev s_root_of : Stmt := top 1
abbrev N_root_of : List Str := ["word", "many"]
theorem sc_root_of : FnScope N_root_of ["word"] (defScope s_root_of) := ⟨rfl, rfl, rfl, by decide +kernel, rfl, by decide +kernel, by decide +kernel⟩
abbrev s_Family___init__ : Stmt := inClass (top 2) 0
abbrev N_Family___init__ : List Str := ["self", "left", "group", "right", "core", "rate", "more"]
theorem sc_Family___init__ : FnScope N_Family___init__ ["self", "left", "group", "right"] (defScope s_Family___init__) := ⟨rfl, rfl, rfl, by decide +kernel, rfl, by decide +kernel, by decide +kernel⟩
abbrev s_Family_told : Stmt := inClass (top 2) 1
abbrev N_Family_told : List Str := ["self"]
theorem sc_Family_told : FnScope N_Family_told ["self"] (defScope s_Family_told) := ⟨rfl, rfl, rfl, by decide +kernel, rfl, by decide +kernel, by decide +kernel⟩
abbrev s_Family_rounds : Stmt := inClass (top 2) 2
abbrev N_Family_rounds : List Str := ["self", "turns"]
theorem sc_Family_rounds : FnScope N_Family_rounds ["self", "turns"] (defScope s_Family_rounds) := ⟨rfl, rfl, rfl, by decide +kernel, rfl, by decide +kernel, by decide +kernel⟩
abbrev s_Family_word : Stmt := inClass (top 2) 3
abbrev N_Family_word : List Str := ["self", "turns"]
theorem sc_Family_word : FnScope N_Family_word ["self", "turns"] (defScope s_Family_word) := ⟨rfl, rfl, rfl, by decide +kernel, rfl, by decide +kernel, by decide +kernel⟩
abbrev s_Family_length : Stmt := inClass (top 2) 4
abbrev N_Family_length : List Str := ["self", "turns"]
theorem sc_Family_length : FnScope N_Family_length ["self", "turns"] (defScope s_Family_length) := ⟨rfl, rfl, rfl, by decide +kernel, rfl, by decide +kernel, by decide +kernel⟩
abbrev s_Family_of_length : Stmt := inClass (top 2) 5
abbrev N_Family_of_length : List Str := ["self", "many", "rest"]
theorem sc_Family_of_length : FnScope N_Family_of_length ["self", "many"] (defScope s_Family_of_length) := ⟨rfl, rfl, rfl, by decide +kernel, rfl, by decide +kernel, by decide +kernel⟩
abbrev s_family_of : Stmt := top 3
abbrev N_family_of : List Str := ["row"]
theorem sc_family_of : FnScope N_family_of ["row"] (defScope s_family_of) := ⟨rfl, rfl, rfl, by decide +kernel, rfl, by decide +kernel, by decide +kernel⟩
abbrev s_same_family : Stmt := top 4
abbrev N_same_family : List Str := ["one", "two"]
theorem sc_same_family : FnScope N_same_family ["one", "two"] (defScope s_same_family) := ⟨rfl, rfl, rfl, by decide +kernel, rfl, by decide +kernel, by decide +kernel⟩
abbrev s_first_unlike : Stmt := top 5
abbrev N_first_unlike : List Str := ["one", "two", "turns"]
theorem sc_first_unlike : FnScope N_first_unlike ["one", "two"] (defScope s_first_unlike) := ⟨rfl, rfl, rfl, by decide +kernel, rfl, by decide +kernel, by decide +kernel⟩
abbrev s__law_number : Stmt := top 7
abbrev N__law_number : List Str := ["_law_script", "_law_index", "_law_cell", "_law_blend"]
theorem sc__law_number : FnScope N__law_number ["_law_script", "_law_index"] (defScope s__law_number) := ⟨rfl, rfl, rfl, by decide +kernel, rfl, by decide +kernel, by decide +kernel⟩
abbrev s__law_take : Stmt := top 8
abbrev N__law_take : List Str := ["_law_draw", "_law_many"]
theorem sc__law_take : FnScope N__law_take ["_law_draw", "_law_many"] (defScope s__law_take) := ⟨rfl, rfl, rfl, by decide +kernel, rfl, by decide +kernel, by decide +kernel⟩
abbrev s__law_pick : Stmt := top 9
abbrev N__law_pick : List Str := ["_law_draw", "_law_items"]
theorem sc__law_pick : FnScope N__law_pick ["_law_draw", "_law_items"] (defScope s__law_pick) := ⟨rfl, rfl, rfl, by decide +kernel, rfl, by decide +kernel, by decide +kernel⟩
abbrev s__law_small_word : Stmt := top 10
abbrev N__law_small_word : List Str := ["_law_draw", "_law_many", "_law_at"]
theorem sc__law_small_word : FnScope N__law_small_word ["_law_draw", "_law_many"] (defScope s__law_small_word) := ⟨rfl, rfl, rfl, by decide +kernel, rfl, by decide +kernel, by decide +kernel⟩
abbrev s__law_is_power : Stmt := top 11
abbrev N__law_is_power : List Str := ["_law_word", "_law_many"]
theorem sc__law_is_power : FnScope N__law_is_power ["_law_word"] (defScope s__law_is_power) := ⟨rfl, rfl, rfl, by decide +kernel, rfl, by decide +kernel, by decide +kernel⟩
abbrev s__law_other : Stmt := top 12
abbrev N__law_other : List Str := ["_law_draw", "_law_left", "_law_group", "_law_right", "_law_kind"]
theorem sc__law_other : FnScope N__law_other ["_law_draw", "_law_left", "_law_group", "_law_right"] (defScope s__law_other) := ⟨rfl, rfl, rfl, by decide +kernel, rfl, by decide +kernel, by decide +kernel⟩
abbrev s_law : Stmt := top 13
abbrev N_law : List Str := ["_law_script", "_law_draw", "_law_turn", "_law_left", "_law_right", "_law_group", "_law_one", "_law_many", "_law_word", "_law_told", "_law_two", "_law_unlike", "_law_row"]
theorem sc_law : FnScope N_law ["_law_script"] (defScope s_law) := ⟨rfl, rfl, rfl, by decide +kernel, rfl, by decide +kernel, by decide +kernel⟩
structure Txt (K : PySem.W.Frag) (mg : Str → Option Value) (W : Wd) : Prop where
  cl0 : Cls K (W.cl 0)
  n0_core : NoAttr K (W.cl 0) "core"
  n0_left : NoAttr K (W.cl 0) "left"
  n0_more : NoAttr K (W.cl 0) "more"
  n0_rate : NoAttr K (W.cl 0) "rate"
  n0_right : NoAttr K (W.cl 0) "right"
  b_abs : mg "abs" = none
  b_int : mg "int" = none
  b_len : mg "len" = none
  b_range : mg "range" = none
  b_tuple : mg "tuple" = none
section
variable {P : Program} {w : World} {K : PySem.W.Frag} {mg : Str → Option Value} {base : Heap} {W : Wd}
theorem ok_root_of {f : Addr} {fd : FuncData} (F : Fun K "root_of" "root_of" s_root_of f fd) (T : Txt K mg W)  : FnOk P w K mg base CX0 1 f fd ["word"] (spD K W (f_root_of) 1) :=
  okD F sc_root_of fun cdv A outer s H E hr =>
  (S_cons (S_for PassesOwn.never rfl (i_rng2 rfl T.b_range (ds_cons d_int (ds_cons (d_add (d_B call_len q_len rfl T.b_len (by decide +kernel) (ds_cons (dv 0) ds_nil)) d_int) ds_nil))) (pg_name (i := 1) sc_root_of.nd rfl (Or.inl rfl)) (q_gV 1) (S_one (S_if (t_w (w_and (t_eq hr.units (d_mod (d_B call_len q_len rfl T.b_len (by decide +kernel) (ds_cons (dv 0) ds_nil)) (dv 1)) d_int) (w_and1 (t_eq hr.units (d_add (d_cut (dv 0) (o_some (dv 1)) o_none) (d_cut (dv 0) o_none (o_some (dv 1)))) (dv 0))))) (S_one (S_ret (d_cut (dv 0) o_none (o_some (dv 1))))) S_nil)))
  (S_one (S_ret (dv 0))))
theorem ok_Family___init__ {f : Addr} {fd : FuncData} (F : Fun K "__init__" "Family.__init__" s_Family___init__ f fd) (T : Txt K mg W) (G_root_of : Cal P w K mg base "root_of" 1 (spD K W (f_root_of) 1)) : FnOk P w K mg base CX0 2 f fd ["self", "left", "group", "right"] (spI K W (f_Family___init__) 0 3) :=
  okI F sc_Family___init__ rfl fun cdv A outer s H E hr =>
  (S_cons (S_asg (c_call G_root_of (hr.mono (by decide)) rfl (ds_cons (dv 2) ds_nil) (al_cons al_nil)) (pg_name (i := 4) sc_Family___init__.nd rfl (Or.inl rfl)) (q_gV 4))
  (S_cons (S_par2 (ps_par (i := 5) (j := 6) rfl sc_Family___init__.nd rfl rfl (by decide) rfl rfl (ds_cons (d_div (d_B call_len q_len rfl T.b_len (by decide +kernel) (ds_cons (dv 2) ds_nil)) (d_B call_len q_len rfl T.b_len (by decide +kernel) (ds_cons (dv 4) ds_nil))) (ds_cons d_int ds_nil)) (by rfl)))
  (S_cons (S_while (fun _ => 1000000) PassesOwn.never (t_w (w_and (t_ne hr.units (dv 1) (d_tup ds_nil)) (w_and1 (t_eq hr.units (d_ix (dv 1) (d_neg d_int)) (d_ix (dv 4) (d_neg d_int)))))) (S_one (S_par3 (ps_par3 (i := 1) (j := 3) (l := 4) rfl sc_Family___init__.nd rfl rfl rfl (by decide) (by decide) (by decide) rfl rfl rfl (ds_cons (d_cut (dv 1) o_none (o_some (d_neg d_int))) (ds_cons (d_add (d_cut (dv 4) (o_some (d_neg d_int)) o_none) (dv 3)) (ds_cons (d_add (d_cut (dv 4) (o_some (d_neg d_int)) o_none) (d_cut (dv 4) o_none (o_some (d_neg d_int)))) ds_nil))) (by rfl)))))
  (S_cons (S_while (fun _ => 1000000) PassesOwn.never (t_eq hr.units (d_cut (dv 3) o_none (o_some (d_B call_len q_len rfl T.b_len (by decide +kernel) (ds_cons (dv 4) ds_nil)))) (dv 4)) (S_one (S_par2 (ps_par (i := 3) (j := 6) rfl sc_Family___init__.nd rfl rfl (by decide) rfl rfl (ds_cons (d_cut (dv 3) (o_some (d_B call_len q_len rfl T.b_len (by decide +kernel) (ds_cons (dv 4) ds_nil))) o_none) (ds_cons (d_add (dv 6) d_int) ds_nil)) (by rfl)))))
  (S_cons (S_fld (c := 0) T.cl0 T.n0_left (pv 0) (dv 1))
  (S_cons (S_fld (c := 0) T.cl0 T.n0_core (pv 0) (dv 4))
  (S_cons (S_fld (c := 0) T.cl0 T.n0_right (pv 0) (dv 3))
  (S_cons (S_fld (c := 0) T.cl0 T.n0_rate (pv 0) (dv 5))
  (S_one (S_fld (c := 0) T.cl0 T.n0_more (pv 0) (dv 6)))))))))))
theorem ok_Family_told {f : Addr} {fd : FuncData} (F : Fun K "told" "Family.told" s_Family_told f fd) (T : Txt K mg W)  : FnOk P w K mg base CX0 1 f fd ["self"] (spD K W (f_Family_told) 1) :=
  okD F sc_Family_told fun cdv A outer s H E hr =>
  (S_one (S_ret (d_tup (ds_cons (d_fld T.cl0 T.n0_left (dv 0)) (ds_cons (d_fld T.cl0 T.n0_core (dv 0)) (ds_cons (d_fld T.cl0 T.n0_right (dv 0)) ds_nil))))))
theorem ok_Family_rounds {f : Addr} {fd : FuncData} (F : Fun K "rounds" "Family.rounds" s_Family_rounds f fd) (T : Txt K mg W)  : FnOk P w K mg base CX0 1 f fd ["self", "turns"] (spD K W (f_Family_rounds) 2) :=
  okD F sc_Family_rounds fun cdv A outer s H E hr =>
  (S_one (S_ret (d_add (d_mul (d_fld T.cl0 T.n0_rate (dv 0)) (dv 1)) (d_fld T.cl0 T.n0_more (dv 0)))))
theorem ok_Family_word {f : Addr} {fd : FuncData} (F : Fun K "word" "Family.word" s_Family_word f fd) (T : Txt K mg W) (G_Family_rounds : CalM P w K mg base (W.cl 0) "rounds" 1 (spD K W (f_Family_rounds) 2)) : FnOk P w K mg base CX0 2 f fd ["self", "turns"] (spD K W (f_Family_word) 2) :=
  okD F sc_Family_word fun cdv A outer s H E hr =>
  (S_one (S_ret (d_add (d_add (d_fld T.cl0 T.n0_left (dv 0)) (d_mul (d_fld T.cl0 T.n0_core (dv 0)) (c_meth G_Family_rounds (hr.mono (by decide)) T.cl0 (dv 0) (ds_cons (dv 1) ds_nil) (al_cons al_nil)))) (d_fld T.cl0 T.n0_right (dv 0)))))
theorem ok_Family_length {f : Addr} {fd : FuncData} (F : Fun K "length" "Family.length" s_Family_length f fd) (T : Txt K mg W) (G_Family_rounds : CalM P w K mg base (W.cl 0) "rounds" 1 (spD K W (f_Family_rounds) 2)) : FnOk P w K mg base CX0 2 f fd ["self", "turns"] (spD K W (f_Family_length) 2) :=
  okD F sc_Family_length fun cdv A outer s H E hr =>
  (S_one (S_ret (d_add (d_add (d_B call_len q_len rfl T.b_len (by decide +kernel) (ds_cons (d_fld T.cl0 T.n0_left (dv 0)) ds_nil)) (d_mul (d_B call_len q_len rfl T.b_len (by decide +kernel) (ds_cons (d_fld T.cl0 T.n0_core (dv 0)) ds_nil)) (c_meth G_Family_rounds (hr.mono (by decide)) T.cl0 (dv 0) (ds_cons (dv 1) ds_nil) (al_cons al_nil)))) (d_B call_len q_len rfl T.b_len (by decide +kernel) (ds_cons (d_fld T.cl0 T.n0_right (dv 0)) ds_nil)))))
theorem ok_Family_of_length {f : Addr} {fd : FuncData} (F : Fun K "of_length" "Family.of_length" s_Family_of_length f fd) (T : Txt K mg W)  : FnOk P w K mg base CX0 1 f fd ["self", "many"] (spD K W (f_Family_of_length) 2) :=
  okD F sc_Family_of_length fun cdv A outer s H E hr =>
  (S_cons (S_asg (d_sub (d_sub (dv 1) (d_B call_len q_len rfl T.b_len (by decide +kernel) (ds_cons (d_fld T.cl0 T.n0_left (dv 0)) ds_nil))) (d_B call_len q_len rfl T.b_len (by decide +kernel) (ds_cons (d_fld T.cl0 T.n0_right (dv 0)) ds_nil))) (pg_name (i := 2) sc_Family_of_length.nd rfl (Or.inl rfl)) (q_gV 2))
  (S_cons (S_if (t_w (w_or (t_lt (dv 2) d_int) (w_or1 (t_ne hr.units (d_mod (dv 2) (d_B call_len q_len rfl T.b_len (by decide +kernel) (ds_cons (d_fld T.cl0 T.n0_core (dv 0)) ds_nil))) d_int)))) (S_one (S_ret d_non)) S_nil)
  (S_one (S_ret (d_add (d_add (d_fld T.cl0 T.n0_left (dv 0)) (d_mul (d_fld T.cl0 T.n0_core (dv 0)) (d_div (dv 2) (d_B call_len q_len rfl T.b_len (by decide +kernel) (ds_cons (d_fld T.cl0 T.n0_core (dv 0)) ds_nil))))) (d_fld T.cl0 T.n0_right (dv 0)))))))
theorem ok_family_of {f : Addr} {fd : FuncData} (F : Fun K "family_of" "family_of" s_family_of f fd) (T : Txt K mg W) (G_Family___init__ : CalI P w K mg base (W.cl 0) "Family" 2 (spI K W (f_Family___init__) 0 3)) : FnOk P w K mg base CX0 4 f fd ["row"] (spD K W (f_family_of) 1) :=
  okD F sc_family_of fun cdv A outer s H E hr =>
  (S_one (S_ret (c_make G_Family___init__ (hr.mono (by decide)) rfl (ds_cons (d_ix (dv 0) d_int) (ds_cons (d_ix (dv 0) d_int) (ds_cons (d_ix (dv 0) d_int) ds_nil))) (al_cons (al_cons (al_cons al_nil))))))
theorem ok_same_family {f : Addr} {fd : FuncData} (F : Fun K "same_family" "same_family" s_same_family f fd) (T : Txt K mg W) (G_Family_told : CalM P w K mg base (W.cl 0) "told" 1 (spD K W (f_Family_told) 1)) : FnOk P w K mg base CX0 2 f fd ["one", "two"] (spD K W (f_same_family) 2) :=
  okD F sc_same_family fun cdv A outer s H E hr =>
  (S_one (S_ret (d_and (d_eq hr.units (c_meth0 G_Family_told (hr.mono (by decide)) T.cl0 (dv 0)) (c_meth0 G_Family_told (hr.mono (by decide)) T.cl0 (dv 1))) (d_one (d_eq hr.units (d_tup (ds_cons (d_fld T.cl0 T.n0_rate (dv 0)) (ds_cons (d_fld T.cl0 T.n0_more (dv 0)) ds_nil))) (d_tup (ds_cons (d_fld T.cl0 T.n0_rate (dv 1)) (ds_cons (d_fld T.cl0 T.n0_more (dv 1)) ds_nil))))))))
theorem ok_first_unlike {f : Addr} {fd : FuncData} (F : Fun K "first_unlike" "first_unlike" s_first_unlike f fd) (T : Txt K mg W) (G_same_family : Cal P w K mg base "same_family" 2 (spD K W (f_same_family) 2)) (G_Family_word : CalM P w K mg base (W.cl 0) "word" 2 (spD K W (f_Family_word) 2)) : FnOk P w K mg base CX0 3 f fd ["one", "two"] (spD K W (f_first_unlike) 2) :=
  okD F sc_first_unlike fun cdv A outer s H E hr =>
  (S_cons (S_if (t_tru (c_call G_same_family (hr.mono (by decide)) rfl (ds_cons (dv 0) (ds_cons (dv 1) ds_nil)) (al_cons (al_cons al_nil)))) (S_one (S_ret d_non)) S_nil)
  (S_cons (S_asg d_int (pg_name (i := 2) sc_first_unlike.nd rfl (Or.inl rfl)) (q_gV 2))
  (S_cons (S_while (fun _ => 1000000) PassesOwn.never (t_eq hr.units (c_meth G_Family_word (hr.mono (by decide)) T.cl0 (dv 0) (ds_cons (dv 2) ds_nil) (al_cons al_nil)) (c_meth G_Family_word (hr.mono (by decide)) T.cl0 (dv 1) (ds_cons (dv 2) ds_nil) (al_cons al_nil))) (S_one (S_aug (i := 2) sc_first_unlike.nd rfl (Or.inl rfl) d_int ip_add)))
  (S_one (S_ret (dv 2))))))
theorem ok__law_number {f : Addr} {fd : FuncData} (F : Fun K "_law_number" "_law_number" s__law_number f fd) (T : Txt K mg W)  : FnOk P w K mg base CX0 1 f fd ["_law_script", "_law_index"] (spD K W (f__law_number W) 2) :=
  okD F sc__law_number fun cdv A outer s H E hr =>
  (S_cons (S_if (t_scrNil hr.units (dv 0) (d_lst ds_nil)) (S_one (S_ret (d_Ty call_int1 q_int rfl T.b_int (by decide +kernel) (ds_cons (d_mod (d_add (d_mul (dv 1) d_int) d_int) d_int) ds_nil)))) S_nil)
  (S_cons (S_asg (d_ixS (dv 0) (d_mod (dv 1) (d_B call_len q_lenS rfl T.b_len (by decide +kernel) (ds_cons (dv 0) ds_nil)))) (pg_name (i := 2) sc__law_number.nd rfl (Or.inl rfl)) (q_gV 2))
  (S_cons (S_if (t_ge (d_B call_abs q_abs rfl T.b_abs (by decide +kernel) (ds_cons (dv 2) ds_nil)) (d_pow d_int d_int)) (S_one (S_asg (d_mod (dv 2) (d_pow d_int d_int)) (pg_name (i := 2) sc__law_number.nd rfl (Or.inl rfl)) (q_gV 2))) S_nil)
  (S_cons (S_asg (d_mod (d_add (d_mul (d_add (dv 2) (d_mul d_int (dv 1))) d_int) (d_mul d_int (d_B call_len q_lenS rfl T.b_len (by decide +kernel) (ds_cons (dv 0) ds_nil)))) d_int) (pg_name (i := 3) sc__law_number.nd rfl (Or.inl rfl)) (q_gV 3))
  (S_one (S_ret (d_Ty call_int1 q_int rfl T.b_int (by decide +kernel) (ds_cons (d_mod (d_add (d_mul (d_mod (d_mul (dv 3) d_int) d_int) d_int) (dv 1)) d_int) ds_nil))))))))
theorem ok__law_take {f : Addr} {fd : FuncData} (F : Fun K "_law_take" "_law_take" s__law_take f fd) (T : Txt K mg W) (G__law_number : Cal P w K mg base "_law_number" 1 (spD K W (f__law_number W) 2)) : FnOk P w K mg base CX0 2 f fd ["_law_draw", "_law_many"] (spD K W (f__law_take W) 2) :=
  okD F sc__law_take fun cdv A outer s H E hr =>
  (S_cons (S_drw (dv 0))
  (S_one (S_ret (d_mod (d_Ty call_int1 q_int rfl T.b_int (by decide +kernel) (ds_cons (c_call G__law_number (hr.mono (by decide)) rfl (ds_cons (d_drw0 (dv 0)) (ds_cons (d_Ty call_int1 q_int rfl T.b_int (by decide +kernel) (ds_cons (d_drw1 (dv 0)) ds_nil)) ds_nil)) (al_cons (al_cons al_nil))) ds_nil)) (dv 1)))))
theorem ok__law_pick {f : Addr} {fd : FuncData} (F : Fun K "_law_pick" "_law_pick" s__law_pick f fd) (T : Txt K mg W) (G__law_take : Cal P w K mg base "_law_take" 2 (spD K W (f__law_take W) 2)) : FnOk P w K mg base CX0 3 f fd ["_law_draw", "_law_items"] (spD K W (f__law_pick W) 2) :=
  okD F sc__law_pick fun cdv A outer s H E hr =>
  (S_one (S_ret (d_ix (dv 1) (c_call G__law_take (hr.mono (by decide)) rfl (ds_cons (dv 0) (ds_cons (d_B call_len q_len rfl T.b_len (by decide +kernel) (ds_cons (dv 1) ds_nil)) ds_nil)) (al_cons (al_cons al_nil))))))
theorem ok__law_small_word {f : Addr} {fd : FuncData} (F : Fun K "_law_small_word" "_law_small_word" s__law_small_word f fd) (T : Txt K mg W) (G__law_pick : Cal P w K mg base "_law_pick" 3 (spD K W (f__law_pick W) 2)) (G__law_take : Cal P w K mg base "_law_take" 2 (spD K W (f__law_take W) 2)) : FnOk P w K mg base CX0 4 f fd ["_law_draw", "_law_many"] (spD K W (f__law_small_word W) 2) :=
  okD F sc__law_small_word fun cdv A outer s H E hr =>
  (S_one (S_ret (d_Ty call_tuple_of q_tupOf rfl T.b_tuple (by decide +kernel) (ds_cons (d_comp rfl sc__law_small_word.nd (i_rng1 rfl T.b_range (ds_cons (c_call G__law_take (hr.mono (by decide)) rfl (ds_cons (dv 0) (ds_cons (d_add (dv 1) d_int) ds_nil)) (al_cons (al_cons al_nil))) ds_nil)) (blkOk_by (own := [("_law_at", 2)]) (N := N__law_small_word) (sc := defScope s__law_small_word) (by decide +kernel)) (fun _ _ _ _ _ => (pg_name (i := 2) sc__law_small_word.nd rfl (Or.inl rfl))) (q_gV 2) (by decide) (fun _ _ _ _ _ => ts_nil) (fun _ _ _ _ _ => (d_tup (ds_cons (c_call G__law_pick (hr.mono (by decide)) rfl (ds_cons (dv 0) (ds_cons (d_lst (ds_cons d_str (ds_cons d_str (ds_cons d_str ds_nil)))) ds_nil)) (al_cons (al_cons al_nil))) (ds_cons d_str ds_nil))))) ds_nil))))
theorem ok__law_is_power {f : Addr} {fd : FuncData} (F : Fun K "_law_is_power" "_law_is_power" s__law_is_power f fd) (T : Txt K mg W)  : FnOk P w K mg base CX0 1 f fd ["_law_word"] (spD K W (f__law_is_power) 1) :=
  okD F sc__law_is_power fun cdv A outer s H E hr =>
  (S_cons (S_for PassesOwn.never rfl (i_rng2 rfl T.b_range (ds_cons d_int (ds_cons (d_B call_len q_len rfl T.b_len (by decide +kernel) (ds_cons (dv 0) ds_nil)) ds_nil))) (pg_name (i := 1) sc__law_is_power.nd rfl (Or.inl rfl)) (q_gV 1) (S_one (S_if (t_w (w_and (t_eq hr.units (d_mod (d_B call_len q_len rfl T.b_len (by decide +kernel) (ds_cons (dv 0) ds_nil)) (dv 1)) d_int) (w_and1 (t_eq hr.units (d_mul (d_cut (dv 0) o_none (o_some (dv 1))) (d_div (d_B call_len q_len rfl T.b_len (by decide +kernel) (ds_cons (dv 0) ds_nil)) (dv 1))) (dv 0))))) (S_one (S_ret d_bl)) S_nil)))
  (S_one (S_ret d_bl)))
theorem ok__law_other {f : Addr} {fd : FuncData} (F : Fun K "_law_other" "_law_other" s__law_other f fd) (T : Txt K mg W) (G__law_take : Cal P w K mg base "_law_take" 2 (spD K W (f__law_take W) 2)) : FnOk P w K mg base CX0 3 f fd ["_law_draw", "_law_left", "_law_group", "_law_right"] (spD K W (f__law_other W) 4) :=
  okD F sc__law_other fun cdv A outer s H E hr =>
  (S_cons (S_asg (c_call G__law_take (hr.mono (by decide)) rfl (ds_cons (dv 0) (ds_cons d_int ds_nil)) (al_cons (al_cons al_nil))) (pg_name (i := 4) sc__law_other.nd rfl (Or.inl rfl)) (q_gV 4))
  (S_cons (S_if (t_eq hr.units (dv 4) d_int) (S_one (S_ret (d_tup (ds_cons (d_add (dv 1) (d_cut (dv 2) o_none (o_some d_int))) (ds_cons (d_add (d_cut (dv 2) (o_some d_int) o_none) (d_cut (dv 2) o_none (o_some d_int))) (ds_cons (d_if (t_eq hr.units (d_cut (dv 3) o_none (o_some d_int)) (d_cut (dv 2) o_none (o_some d_int))) (d_cut (dv 3) (o_some d_int) o_none) (dv 3)) ds_nil)))))) S_nil)
  (S_cons (S_if (t_w (w_and (t_eq hr.units (dv 4) d_int) (w_and (t_ne hr.units (dv 1) (d_tup ds_nil)) (w_and1 (t_eq hr.units (d_ix (dv 1) (d_neg d_int)) (d_ix (dv 2) (d_neg d_int))))))) (S_one (S_ret (d_tup (ds_cons (d_cut (dv 1) o_none (o_some (d_neg d_int))) (ds_cons (d_add (d_cut (dv 2) (o_some (d_neg d_int)) o_none) (d_cut (dv 2) o_none (o_some (d_neg d_int)))) (ds_cons (d_add (d_cut (dv 2) (o_some (d_neg d_int)) o_none) (dv 3)) ds_nil)))))) S_nil)
  (S_cons (S_if (t_eq hr.units (dv 4) d_int) (S_one (S_ret (d_tup (ds_cons (d_add (dv 1) (dv 2)) (ds_cons (dv 2) (ds_cons (dv 3) ds_nil)))))) S_nil)
  (S_cons (S_if (t_eq hr.units (dv 4) d_int) (S_one (S_ret (d_tup (ds_cons (dv 1) (ds_cons (dv 2) (ds_cons (d_add (dv 2) (dv 3)) ds_nil)))))) S_nil)
  (S_one (S_ret (d_tup (ds_cons (dv 1) (ds_cons (d_add (dv 2) (dv 2)) (ds_cons (dv 3) ds_nil)))))))))))
theorem body_law {f : Addr} {fd : FuncData} (F : Fun K "law" "law" s_law f fd) (T : Txt K mg W) (G__law_is_power : Cal P w K mg base "_law_is_power" 1 (spD K W (f__law_is_power) 1)) (G__law_other : Cal P w K mg base "_law_other" 3 (spD K W (f__law_other W) 4)) (G__law_small_word : Cal P w K mg base "_law_small_word" 4 (spD K W (f__law_small_word W) 2)) (G__law_take : Cal P w K mg base "_law_take" 2 (spD K W (f__law_take W) 2)) (G_family_of : Cal P w K mg base "family_of" 4 (spD K W (f_family_of) 1)) (G_first_unlike : Cal P w K mg base "first_unlike" 3 (spD K W (f_first_unlike) 2)) (G_same_family : Cal P w K mg base "same_family" 2 (spD K W (f_same_family) 2)) (G_Family___init__ : CalI P w K mg base (W.cl 0) "Family" 2 (spI K W (f_Family___init__) 0 3)) (G_Family_length : CalM P w K mg base (W.cl 0) "length" 2 (spD K W (f_Family_length) 2)) (G_Family_of_length : CalM P w K mg base (W.cl 0) "of_length" 1 (spD K W (f_Family_of_length) 2)) (G_Family_word : CalM P w K mg base (W.cl 0) "word" 2 (spD K W (f_Family_word) 2)) {k : Nat} (hk : 4 ≤ k) : ∀ (cdv : Value) (A : Around) (outer : List PySem.Env) (s : Shared) (H : Hp) (E : XK), Room k (A.deeper (envOfC "law" (defScope s_law) s.heap.objs.size f cdv)) → PSs (cxOf CX0 P w K mg base N_law "law" (defScope s_law) f cdv A outer s H E).nox ((defBody s_law).drop 1) (tS K W (g_law W)) := fun cdv A outer s H E hr0 => by
  have hr := hr0.mono hk
  exact (S_cons (S_for PassesOwn.never rfl (i_rng1 rfl T.b_range (ds_cons d_int ds_nil)) (pg_name (i := 2) sc_law.nd rfl (Or.inl rfl)) (q_gV 2) (S_cons (S_asg (d_tup (ds_cons (c_call G__law_small_word (hr.mono (by decide)) rfl (ds_cons (dv 1) (ds_cons d_int ds_nil)) (al_cons (al_cons al_nil))) (ds_cons (c_call G__law_small_word (hr.mono (by decide)) rfl (ds_cons (dv 1) (ds_cons d_int ds_nil)) (al_cons (al_cons al_nil))) ds_nil))) (pg_tup rfl (pgs_cons (pg_name (i := 3) sc_law.nd rfl (Or.inr rfl)) (pgs_cons (pg_name (i := 4) sc_law.nd rfl (Or.inr rfl)) pgs_nil))) (q_gT (q_gsC (q_gV 3) (q_gsC (q_gV 4) q_gsN)) (gl_C (gl_C gl_N))))
  (S_cons (S_asg (d_add (c_call G__law_small_word (hr.mono (by decide)) rfl (ds_cons (dv 1) (ds_cons d_int ds_nil)) (al_cons (al_cons al_nil))) (d_tup (ds_cons (d_tup (ds_cons d_str (ds_cons d_str ds_nil))) ds_nil))) (pg_name (i := 5) sc_law.nd rfl (Or.inr rfl)) (q_gV 5))
  (S_cons (S_if (t_eq hr.units (c_call G__law_take (hr.mono (by decide)) rfl (ds_cons (dv 1) (ds_cons d_int ds_nil)) (al_cons (al_cons al_nil))) d_int) (S_one (S_asg (d_add (dv 5) (dv 5)) (pg_name (i := 5) sc_law.nd rfl (Or.inr rfl)) (q_gV 5))) S_nil)
  (S_cons (S_asg (c_make G_Family___init__ (hr.mono (by decide)) rfl (ds_cons (dv 3) (ds_cons (dv 5) (ds_cons (dv 4) ds_nil))) (al_cons (al_cons (al_cons al_nil)))) (pg_name (i := 6) sc_law.nd rfl (Or.inl rfl)) (q_gV 6))
  (S_cons (S_for PassesOwn.never rfl (i_rng1 rfl T.b_range (ds_cons d_int ds_nil)) (pg_name (i := 7) sc_law.nd rfl (Or.inl rfl)) (q_gV 7) (S_cons (S_asg (d_add (d_add (dv 3) (d_mul (dv 5) (dv 7))) (dv 4)) (pg_name (i := 8) sc_law.nd rfl (Or.inl rfl)) (q_gV 8))
  (S_cons (S_if (t_w (w_or (t_ne hr.units (c_meth G_Family_word (hr.mono (by decide)) T.cl0 (dv 6) (ds_cons (dv 7) ds_nil) (al_cons al_nil)) (dv 8)) (w_or1 (t_ne hr.units (d_add (d_add (d_fld T.cl0 T.n0_left (dv 6)) (d_mul (d_fld T.cl0 T.n0_core (dv 6)) (d_add (d_mul (d_fld T.cl0 T.n0_rate (dv 6)) (dv 7)) (d_fld T.cl0 T.n0_more (dv 6))))) (d_fld T.cl0 T.n0_right (dv 6))) (dv 8))))) (S_one (S_ret d_bl)) S_nil)
  (S_one (S_if (t_w (w_or (t_ne hr.units (c_meth G_Family_length (hr.mono (by decide)) T.cl0 (dv 6) (ds_cons (dv 7) ds_nil) (al_cons al_nil)) (d_B call_len q_len rfl T.b_len (by decide +kernel) (ds_cons (dv 8) ds_nil))) (w_or1 (t_ne hr.units (c_meth G_Family_of_length (hr.mono (by decide)) T.cl0 (dv 6) (ds_cons (d_B call_len q_len rfl T.b_len (by decide +kernel) (ds_cons (dv 8) ds_nil)) ds_nil) (al_cons al_nil)) (dv 8))))) (S_one (S_ret d_bl)) S_nil)))))
  (S_cons (S_if (t_w (w_or (t_tru (c_call G__law_is_power (hr.mono (by decide)) rfl (ds_cons (d_fld T.cl0 T.n0_core (dv 6)) ds_nil) (al_cons al_nil))) (w_or (t_eq hr.units (d_cut (d_fld T.cl0 T.n0_left (dv 6)) (o_some (d_neg d_int)) o_none) (d_cut (d_fld T.cl0 T.n0_core (dv 6)) (o_some (d_neg d_int)) o_none)) (w_or1 (t_eq hr.units (d_cut (d_fld T.cl0 T.n0_right (dv 6)) o_none (o_some (d_B call_len q_len rfl T.b_len (by decide +kernel) (ds_cons (d_fld T.cl0 T.n0_core (dv 6)) ds_nil)))) (d_fld T.cl0 T.n0_core (dv 6))))))) (S_one (S_ret d_bl)) S_nil)
  (S_cons (S_if (t_w (w_and (t_notN (c_meth G_Family_of_length (hr.mono (by decide)) T.cl0 (dv 6) (ds_cons (d_add (d_add (d_add (d_B call_len q_len rfl T.b_len (by decide +kernel) (ds_cons (d_fld T.cl0 T.n0_left (dv 6)) ds_nil)) (d_B call_len q_len rfl T.b_len (by decide +kernel) (ds_cons (d_fld T.cl0 T.n0_right (dv 6)) ds_nil))) (d_B call_len q_len rfl T.b_len (by decide +kernel) (ds_cons (d_fld T.cl0 T.n0_core (dv 6)) ds_nil))) d_int) ds_nil) (al_cons al_nil))) (w_and1 (t_gt (d_B call_len q_len rfl T.b_len (by decide +kernel) (ds_cons (d_fld T.cl0 T.n0_core (dv 6)) ds_nil)) d_int)))) (S_one (S_ret d_bl)) S_nil)
  (S_cons (S_asg (d_if (t_gt (c_call G__law_take (hr.mono (by decide)) rfl (ds_cons (dv 1) (ds_cons d_int ds_nil)) (al_cons (al_cons al_nil))) d_int) (c_call G__law_other (hr.mono (by decide)) rfl (ds_cons (dv 1) (ds_cons (dv 3) (ds_cons (dv 5) (ds_cons (dv 4) ds_nil)))) (al_cons (al_cons (al_cons (al_cons al_nil))))) (d_tup (ds_cons (c_call G__law_small_word (hr.mono (by decide)) rfl (ds_cons (dv 1) (ds_cons d_int ds_nil)) (al_cons (al_cons al_nil))) (ds_cons (dv 5) (ds_cons (dv 4) ds_nil))))) (pg_name (i := 9) sc_law.nd rfl (Or.inr rfl)) (q_gV 9))
  (S_cons (S_asg (c_make G_Family___init__ (hr.mono (by decide)) rfl (ds_cons (d_ix (dv 9) d_int) (ds_cons (d_ix (dv 9) d_int) (ds_cons (d_ix (dv 9) d_int) ds_nil))) (al_cons (al_cons (al_cons al_nil)))) (pg_name (i := 10) sc_law.nd rfl (Or.inl rfl)) (q_gV 10))
  (S_cons (S_setComp (i := 11) rfl sc_law.nd rfl rfl (sw_true rfl rfl rfl (by decide +kernel)) (i_rng1 rfl T.b_range (ds_cons d_int ds_nil)) (blkOk_by (own := [("_law_many", 7)]) (N := N_law) (sc := defScope s_law) (by decide +kernel)) (fun _ _ _ _ _ => (pg_name (i := 7) sc_law.nd rfl (Or.inl rfl))) (q_gV 7) (by decide) (fun _ _ _ _ _ => (ts_one (t_ne hr.units (d_add (d_add (d_ix (dv 9) d_int) (d_mul (d_ix (dv 9) d_int) (dv 7))) (d_ix (dv 9) d_int)) (d_add (d_add (dv 3) (d_mul (dv 5) (dv 7))) (dv 4))))) (fun _ _ _ _ _ => (dv 7)))
  (S_cons (S_if (t_w (w_or (t_ne hr.units (c_call G_same_family (hr.mono (by decide)) rfl (ds_cons (dv 6) (ds_cons (dv 10) ds_nil)) (al_cons (al_cons al_nil))) (d_eq hr.units (dv 11) (d_lst ds_nil))) (w_or1 (t_ne hr.units (c_call G_first_unlike (hr.mono (by decide)) rfl (ds_cons (dv 6) (ds_cons (dv 10) ds_nil)) (al_cons (al_cons al_nil))) (d_if (t_ne hr.units (dv 11) (d_lst ds_nil)) (d_ix (dv 11) d_int) d_non))))) (S_one (S_ret d_bl)) S_nil)
  (S_cons (S_asg (c_call G_family_of (hr.mono (by decide)) rfl (ds_cons (d_tup (ds_cons (dv 3) (ds_cons (dv 5) (ds_cons (dv 4) ds_nil)))) ds_nil) (al_cons al_nil)) (pg_name (i := 12) sc_law.nd rfl (Or.inl rfl)) (q_gV 12))
  (S_one (S_if (t_ne hr.units (d_tup (ds_cons (d_fld T.cl0 T.n0_left (dv 12)) (ds_cons (d_fld T.cl0 T.n0_core (dv 12)) (ds_cons (d_fld T.cl0 T.n0_right (dv 12)) (ds_cons (d_fld T.cl0 T.n0_rate (dv 12)) (ds_cons (d_fld T.cl0 T.n0_more (dv 12)) ds_nil)))))) (d_tup (ds_cons (d_fld T.cl0 T.n0_left (dv 6)) (ds_cons (d_fld T.cl0 T.n0_core (dv 6)) (ds_cons (d_fld T.cl0 T.n0_right (dv 6)) (ds_cons (d_fld T.cl0 T.n0_rate (dv 6)) (ds_cons (d_fld T.cl0 T.n0_more (dv 6)) ds_nil))))))) (S_one (S_ret d_bl)) S_nil)))))))))))))))
  (S_one (S_ret d_bl)))
end
end P_k11_whole_families
end

section
set_option Elab.async false
set_option linter.all false
set_option autoImplicit false
set_option maxRecDepth 100000
/-! evaluating the functions over plain data -/
namespace DL
open PySem L2
/-- the ways on, by names of their own (no match stands in a goal) -/
def bindR {α β : Type} (r : Option (Except Xc α × Int)) (k : α → M β) : Option (Except Xc β × Int) := match r with
  | none => none
  | some (.ok x, n1) => k x n1
  | some (.error e, n1) => some (.error e, n1)
@[simp] theorem bindR_ok {α β : Type} (x : α) (n : Int) (k : α → M β) : bindR (some (.ok x, n)) k = k x n := (rfl)
@[simp] theorem bindR_none {α β : Type} (k : α → M β) : bindR none k = none := (rfl)
@[simp] theorem bindR_err {α β : Type} (e : Xc) (n : Int) (k : α → M β) : bindR (some (.error e, n)) k = some (.error e, n) := (rfl)
def selB {α : Type} (b : Bool) (x y : α) : α := match b with | true => x | false => y
@[simp] theorem selB_true {α : Type} (x y : α) : selB true x y = x := (rfl)
@[simp] theorem selB_false {α : Type} (x y : α) : selB false x y = y := (rfl)
def seqK (h : SX) (o : Out) : M Out := match o with
  | .nx ρ' => h ρ'
  | .bk ρ' => M.pure (.bk ρ')
  | .ct ρ' => M.pure (.ct ρ')
  | .ret d => M.pure (.ret d)
@[simp] theorem seqK_nx (h : SX) (ρ : Env) : seqK h (.nx ρ) = h ρ := (rfl)
@[simp] theorem seqK_bk (h : SX) (ρ : Env) : seqK h (.bk ρ) = M.pure (.bk ρ) := (rfl)
@[simp] theorem seqK_ct (h : SX) (ρ : Env) : seqK h (.ct ρ) = M.pure (.ct ρ) := (rfl)
@[simp] theorem seqK_ret (h : SX) (d : D) : seqK h (.ret d) = M.pure (.ret d) := (rfl)
def runK (o : Out) : M D := match o with
  | .ret d => M.pure d
  | .nx _ => M.pure .non
  | _ => M.opt none
@[simp] theorem runK_ret (d : D) : runK (.ret d) = M.pure d := (rfl)
@[simp] theorem runK_nx (ρ : Env) : runK (.nx ρ) = M.pure .non := (rfl)
def runIK (o : Out) : M D := match o with
  | .nx (Sl.own d :: _) => M.pure d
  | _ => M.opt none
@[simp] theorem runIK_nx (d : D) (r : Env) : runIK (.nx (Sl.own d :: r)) = M.pure d := (rfl)
/-- behind a turn: on with k, or out -/
def turnK (k : Env → M Out) (o : Out) : M Out := match o with
  | .nx ρ2 => k ρ2
  | .ct ρ2 => k ρ2
  | .bk ρ2 => M.pure (.nx ρ2)
  | .ret d => M.pure (.ret d)
@[simp] theorem turnK_nx (k : Env → M Out) (ρ : Env) : turnK k (.nx ρ) = k ρ := (rfl)
@[simp] theorem turnK_ct (k : Env → M Out) (ρ : Env) : turnK k (.ct ρ) = k ρ := (rfl)
@[simp] theorem turnK_bk (k : Env → M Out) (ρ : Env) : turnK k (.bk ρ) = M.pure (.nx ρ) := (rfl)
@[simp] theorem turnK_ret (k : Env → M Out) (d : D) : turnK k (.ret d) = M.pure (.ret d) := (rfl)
def makeK (c : Nat) (d : D) : M D := match d with
  | .obj c' ks vs => if c' = c then M.pure (.obj c' ks vs) else M.opt none
  | _ => M.opt none
@[simp] theorem makeK_obj (c : Nat) (ks : List Str) (vs : List D) : makeK c (.obj c ks vs) = M.pure (.obj c ks vs) := if_pos rfl
def intK (d : D) : Option (Option Int) := match d with | .int i => some (some i) | _ => none
@[simp] theorem intK_int (i : Int) : intK (.int i) = some (some i) := (rfl)
def chainK (o2 : D → D → Option D) (y : D) (fc : M D) (r : D) : M D := match r with
  | .bl true => M.bind fc fun z => M.opt (o2 y z)
  | .bl false => M.pure (.bl false)
  | _ => M.opt none
@[simp] theorem chainK_true (o2 : D → D → Option D) (y : D) (fc : M D) : chainK o2 y fc (.bl true) = M.bind fc fun z => M.opt (o2 y z) := (rfl)
@[simp] theorem chainK_false (o2 : D → D → Option D) (y : D) (fc : M D) : chainK o2 y fc (.bl false) = M.pure (.bl false) := (rfl)
def consO (y : Option D) (ys : List D) : List D := match y with | some z => z :: ys | none => ys
@[simp] theorem consO_some (z : D) (ys : List D) : consO (some z) ys = z :: ys := (rfl)
@[simp] theorem consO_none (ys : List D) : consO none ys = ys := (rfl)
def findK (o : Option D) (r : D → D) (ρ : Env) : Out := match o with | some d => .ret (r d) | none => .nx ρ
@[simp] theorem findK_some (d : D) (r : D → D) (ρ : Env) : findK (some d) r ρ = .ret (r d) := (rfl)
@[simp] theorem findK_none (r : D → D) (ρ : Env) : findK none r ρ = .nx ρ := (rfl)
@[simp] theorem bind_ap {α β : Type} (a : M α) (k : α → M β) (n : Int) : M.bind a k n = bindR (a n) k := (rfl)
@[simp] theorem pure_ap {α : Type} (a : α) (n : Int) : M.pure a n = some (.ok a, n) := (rfl)
@[simp] theorem opt_some {α : Type} (a : α) (n : Int) : M.opt (some a) n = some (.ok a, n) := (rfl)
@[simp] theorem opt_none {α : Type} (n : Int) : (M.opt (none : Option α)) n = none := (rfl)
@[simp] theorem eVar_0 (d : D) (r : Env) (n : Int) : eVar 0 (.val d :: r) n = some (.ok d, n) := (rfl)
@[simp] theorem eVar_s (i : Nat) (s : Sl) (r : Env) (n : Int) : eVar (i + 1) (s :: r) n = eVar i r n := (rfl)
@[simp] theorem eC_ap (d : D) (ρ : Env) (n : Int) : eC d ρ n = some (.ok d, n) := (rfl)
@[simp] theorem eNil_ap (ρ : Env) (n : Int) : eNil ρ n = some (.ok [], n) := (rfl)
@[simp] theorem eCons_ap (f : EX) (g : EXs) (ρ : Env) (n : Int) : eCons f g ρ n = M.bind (f ρ) (fun d => M.bind (g ρ) fun ds => M.pure (d :: ds)) n := (rfl)
@[simp] theorem eTup_ap (f : EXs) (ρ : Env) (n : Int) : eTup f ρ n = M.bind (f ρ) (fun ds => M.opt (mkTup ds)) n := (rfl)
@[simp] theorem eLst_ap (f : EXs) (ρ : Env) (n : Int) : eLst f ρ n = M.bind (f ρ) (fun ds => M.opt (mkLst ds)) n := (rfl)
@[simp] theorem e2_ap (op : D → D → Option D) (a b : EX) (ρ : Env) (n : Int) : e2 op a b ρ n = M.bind (a ρ) (fun x => M.bind (b ρ) fun y => M.opt (op x y)) n := (rfl)
@[simp] theorem e1_ap (op : D → Option D) (a : EX) (ρ : Env) (n : Int) : e1 op a ρ n = M.bind (a ρ) (fun x => M.opt (op x)) n := (rfl)
@[simp] theorem eB_ap (op : List D → Option D) (a : EXs) (ρ : Env) (n : Int) : eB op a ρ n = M.bind (a ρ) (fun x => M.opt (op x)) n := (rfl)
@[simp] theorem eCall_ap (fx : FX) (a : EXs) (ρ : Env) (n : Int) : eCall fx a ρ n = M.bind (a ρ) fx n := (rfl)
@[simp] theorem eMake_ap (c : Nat) (fx : FX) (a : EXs) (ρ : Env) (n : Int) : eMake c fx a ρ n = M.bind (a ρ) (fun ds => M.bind (fx ds) (makeK c)) n := (rfl)
@[simp] theorem eMeth_ap (c : Nat) (m : Str) (fx : FX) (fo : EX) (fs : EXs) (ρ : Env) (n : Int) : eMeth c m fx fo fs ρ n = M.bind (fo ρ) (fun o => if isObj c m o then M.bind (fs ρ) fun ds => fx (o :: ds) else M.opt none) n := (rfl)
@[simp] theorem eIf_ap (t : TX) (f g : EX) (ρ : Env) (n : Int) : eIf t f g ρ n = M.bind (t ρ) (fun b => selB b (f ρ) (g ρ)) n := (rfl)
@[simp] theorem eAnd_ap (f g : EX) (ρ : Env) (n : Int) : eAnd f g ρ n = M.bind (f ρ) (fun d => M.bind (M.opt (dTru d)) fun b => selB b (g ρ) (M.pure d)) n := (rfl)
@[simp] theorem eOr_ap (f g : EX) (ρ : Env) (n : Int) : eOr f g ρ n = M.bind (f ρ) (fun d => M.bind (M.opt (dTru d)) fun b => selB b (M.pure d) (g ρ)) n := (rfl)
@[simp] theorem eNot_ap (f : EX) (ρ : Env) (n : Int) : eNot f ρ n = M.bind (f ρ) (fun d => M.bind (M.opt (dTru d)) fun b => M.pure (.bl (!b))) n := (rfl)
@[simp] theorem eCut_ap (f : EX) (lo hi : EO) (ρ : Env) (n : Int) : eCut f lo hi ρ n = M.bind (f ρ) (fun x => M.bind (lo ρ) fun l => M.bind (hi ρ) fun h => M.opt (dCut x l h)) n := (rfl)
@[simp] theorem oNone_ap (ρ : Env) (n : Int) : oNone ρ n = some (.ok none, n) := (rfl)
@[simp] theorem oSome_ap (f : EX) (ρ : Env) (n : Int) : oSome f ρ n = M.bind (f ρ) (fun d => M.opt (intK d)) n := (rfl)
@[simp] theorem eChain_ap (o1 o2 : D → D → Option D) (fa fb fc : EX) (ρ : Env) (n : Int) : eChain o1 o2 fa fb fc ρ n = M.bind (fa ρ) (fun x => M.bind (fb ρ) fun y => M.bind (M.opt (o1 x y)) fun r => chainK o2 y (fc ρ) r) n := (rfl)
@[simp] theorem tB_ap (f : EX) (ρ : Env) (n : Int) : tB f ρ n = M.bind (f ρ) (fun d => M.opt (dBool d)) n := (rfl)
@[simp] theorem tTru_ap (f : EX) (ρ : Env) (n : Int) : tTru f ρ n = M.bind (f ρ) (fun d => M.opt (dTru d)) n := (rfl)
@[simp] theorem tAndD_ap (t u : TX) (ρ : Env) (n : Int) : tAndD t u ρ n = M.bind (t ρ) (fun b => selB b (u ρ) (M.pure false)) n := (rfl)
@[simp] theorem tOrD_ap (t u : TX) (ρ : Env) (n : Int) : tOrD t u ρ n = M.bind (t ρ) (fun b => selB b (M.pure true) (u ρ)) n := (rfl)
@[simp] theorem tNotD_ap (t : TX) (ρ : Env) (n : Int) : tNotD t ρ n = M.bind (t ρ) (fun b => M.pure (!b)) n := (rfl)
@[simp] theorem tYesD_ap (ρ : Env) (n : Int) : tYesD ρ n = some (.ok true, n) := (rfl)
@[simp] theorem dBool_bl (b : Bool) : dBool (.bl b) = some b := (rfl)
@[simp] theorem dTru_bl (b : Bool) : dTru (.bl b) = some b := (rfl)
@[simp] theorem isNon_non : isNon .non = true := (rfl)
@[simp] theorem isNon_int (i : Int) : isNon (.int i) = false := (rfl)
@[simp] theorem isNon_tup (xs : List D) : isNon (.tup xs) = false := (rfl)
@[simp] theorem sNx_ap (ρ : Env) (n : Int) : sNx ρ n = some (.ok (.nx ρ), n) := (rfl)
@[simp] theorem sSeq_ap (g h : SX) (ρ : Env) (n : Int) : sSeq g h ρ n = M.bind (g ρ) (seqK h) n := (rfl)
@[simp] theorem sRet_ap (f : EX) (ρ : Env) (n : Int) : sRet f ρ n = M.bind (f ρ) (fun d => M.pure (.ret d)) n := (rfl)
@[simp] theorem sExp_ap (f : EX) (ρ : Env) (n : Int) : sExp f ρ n = M.bind (f ρ) (fun _ => M.pure (.nx ρ)) n := (rfl)
@[simp] theorem sAsg_ap (g : GX) (f : EX) (ρ : Env) (n : Int) : sAsg g f ρ n = M.bind (f ρ) (fun d => M.bind (M.opt (g d ρ)) fun ρ' => M.pure (.nx ρ')) n := (rfl)
@[simp] theorem sIf_ap (t : TX) (g h : SX) (ρ : Env) (n : Int) : sIf t g h ρ n = M.bind (t ρ) (fun b => selB b (g ρ) (h ρ)) n := (rfl)
@[simp] theorem sFor_ap (g : GX) (it : IX) (b : SX) (ρ : Env) (n : Int) : sFor g it b ρ n = M.bind (it ρ) (fun ds => forD g b ds ρ) n := (rfl)
@[simp] theorem sWhile_ap (m : Env → Nat) (t : TX) (b : SX) (ρ : Env) (n : Int) : sWhile m t b ρ n = whileD t b (m ρ) ρ n := (rfl)
@[simp] theorem sAug_ap (i : Nat) (op : D → D → Option D) (f : EX) (ρ : Env) (n : Int) : sAug i op f ρ n = M.bind (eVar i ρ) (fun a => M.bind (f ρ) fun b => M.bind (M.opt (op a b)) fun d => M.pure (.nx (ρ.set i (.val d)))) n := (rfl)
@[simp] theorem sUp_ap (i : Nat) (up : D → D → Option D) (f : EX) (ρ : Env) (n : Int) : sUp i up f ρ n = M.bind (f ρ) (fun d => M.bind (M.opt ((own? ρ i).bind (up d))) fun o => M.pure (.nx (ρ.set i (.own o)))) n := (rfl)
@[simp] theorem sPar_ap (is : List Nat) (f : EXs) (ρ : Env) (n : Int) : sPar is f ρ n = M.bind (f ρ) (fun ds => if ds.length = is.length then M.pure (.nx ((is.zip ds).foldl (fun r p => r.set p.1 (.val p.2)) ρ)) else M.opt none) n := (rfl)
@[simp] theorem own_0 (d : D) (r : Env) : own? (.own d :: r) 0 = some d := (rfl)
@[simp] theorem own_s (i : Nat) (s : Sl) (r : Env) : own? (s :: r) (i + 1) = own? r i := (rfl)
@[simp] theorem gV_ap (i : Nat) (d : D) (ρ : Env) : gV i d ρ = some (ρ.set i (.val d)) := (rfl)
@[simp] theorem gT_ap (g : GXs) (ds : List D) (ρ : Env) : gT g (.tup ds) ρ = g ds ρ := (rfl)
@[simp] theorem gsN_ap (ρ : Env) : gsN [] ρ = some ρ := (rfl)
@[simp] theorem gsC_ap (g : GX) (gs : GXs) (d : D) (r : List D) (ρ : Env) : gsC g gs (d :: r) ρ = (g d ρ).bind fun ρ1 => gs r ρ1 := (rfl)
@[simp] theorem iOf_ap (f : EX) (ρ : Env) (n : Int) : iOf f ρ n = M.bind (f ρ) (fun d => M.opt (dItems d)) n := (rfl)
@[simp] theorem iRng1D_ap (f : EXs) (ρ : Env) (n : Int) : iRng1D f ρ n = M.bind (f ρ) (fun ds => M.opt (dRng1 ds)) n := (rfl)
@[simp] theorem iRng2D_ap (f : EXs) (ρ : Env) (n : Int) : iRng2D f ρ n = M.bind (f ρ) (fun ds => M.opt (dRng2 ds)) n := (rfl)
@[simp] theorem dItems_tup (ds : List D) : dItems (.tup ds) = some ds := (rfl)
@[simp] theorem dItems_lst (ds : List D) : dItems (.lst ds) = some ds := (rfl)
@[simp] theorem eComp_ap (vs : List Nat) (g : GX) (it : IX) (t : TX) (f : EX) (ρ : Env) (n : Int) : eComp vs g it t f ρ n = M.bind (it ρ) (fun ds => M.bind (compD (compB vs g t f ρ) ds) fun ys => M.opt (mkLst ys)) n := (rfl)
@[simp] theorem compB_ap (vs : List Nat) (g : GX) (t : TX) (f : EX) (ρ : Env) (d : D) (n : Int) : compB vs g t f ρ d n = M.bind (M.opt (g d (hide (wipeD ρ vs)))) (fun ρ1 => M.bind (t ρ1) fun b => selB b (M.bind (f ρ1) fun y => M.pure (some y)) (M.pure none)) n := (rfl)
@[simp] theorem hide_nil : hide [] = [] := (rfl)
@[simp] theorem hide_no (r : Env) : hide (.no :: r) = .no :: hide r := (rfl)
@[simp] theorem hide_val (d : D) (r : Env) : hide (.val d :: r) = .val d :: hide r := (rfl)
@[simp] theorem hide_own (d : D) (r : Env) : hide (.own d :: r) = .no :: hide r := (rfl)
@[simp] theorem wipeD_nil (ρ : Env) : wipeD ρ [] = ρ := (rfl)
@[simp] theorem wipeD_cons (ρ : Env) (v : Nat) (vs : List Nat) : wipeD ρ (v :: vs) = (wipeD ρ vs).set v .no := (rfl)
@[simp] theorem runD_ap (N P : Nat) (g : SX) (ds : List D) (n : Int) : runD N P g ds n = M.bind (g (ds.map Sl.val ++ List.replicate (N - P) Sl.no)) runK n := (rfl)
@[simp] theorem runI_ap (N P c : Nat) (g : SX) (ds : List D) (n : Int) : runI N P c g ds n = M.bind (g (Sl.own (.obj c [] []) :: ds.map Sl.val ++ List.replicate (N - P) Sl.no)) runIK n := (rfl)
@[simp] theorem forD_nil (g : GX) (b : SX) (ρ : Env) (n : Int) : forD g b [] ρ n = some (.ok (.nx ρ), n) := (rfl)
theorem forD_cons (g : GX) (b : SX) (d : D) (ds : List D) (ρ : Env) (n : Int) : forD g b (d :: ds) ρ n = M.bind (M.opt (g d ρ)) (fun ρ1 => M.bind (b ρ1) (turnK (forD g b ds))) n := (rfl)
theorem whileD_s (t : TX) (b : SX) (m : Nat) (ρ : Env) (n : Int) : whileD t b (m + 1) ρ n = M.bind (t ρ) (fun c => selB c (M.bind (b ρ) (turnK (whileD t b m))) (M.pure (.nx ρ))) n := by
  show M.bind (t ρ) _ n = M.bind (t ρ) _ n
  congr 1
  funext c
  cases c
  · rfl
  · show M.bind (b ρ) _ = M.bind (b ρ) _
    congr 1
theorem compD_nil (b : D → M (Option D)) (n : Int) : compD b [] n = some (.ok [], n) := (rfl)
theorem compD_cons (b : D → M (Option D)) (d : D) (ds : List D) (n : Int) : compD b (d :: ds) n = M.bind (b d) (fun y => M.bind (compD b ds) fun ys => M.pure (consO y ys)) n := (rfl)
theorem small62_of {i : Int} (h : -1000000 ≤ i) (h2 : i ≤ 1000000) : small62 i = true := by
  unfold small62
  simp only [Bool.and_eq_true, decide_eq_true_eq]
  exact ⟨by omega, by omega⟩
theorem small64_of {i : Int} (h : -1000000 ≤ i) (h2 : i ≤ 1000000) : small64 i = true := by
  unfold small64
  simp only [Bool.and_eq_true, decide_eq_true_eq]
  exact ⟨by omega, by omega⟩
theorem dRng1_ok {j : Int} (h : -1000000 ≤ j) (h2 : j ≤ 1000000) : dRng1 [.int j] = some (rngD 0 j) := if_pos (small62_of h h2)
theorem dRng2_ok {i j : Int} (h : -1000000 ≤ i) (h2 : i ≤ 1000000) (h3 : -1000000 ≤ j) (h4 : j ≤ 1000000) : dRng2 [.int i, .int j] = some (rngD i j) := if_pos (by rw [small62_of h h2, small62_of h3 h4]; rfl)
theorem szl : sizeLine = 16777216 := sizeLine_eq
@[simp] theorem mkTup_of {ds : List D} (h : ds.length ≤ 16777216) : mkTup ds = some (.tup ds) := by
  unfold mkTup gz; rw [sizeLine_eq, decide_eq_true h]; rfl
@[simp] theorem mkLst_of {ds : List D} (h : ds.length ≤ 16777216) : mkLst ds = some (.lst ds) := by
  unfold mkLst gz; rw [sizeLine_eq, decide_eq_true h]; rfl
/-! ### comprehensions, loops -/
/-- a comprehension whose elements don't draw -/
theorem compD_map (b : D → M (Option D)) (f : D → Option D) (n : Int) : ∀ ds : List D, (∀ d ∈ ds, b d n = some (.ok (f d), n)) → compD b ds n = some (.ok (ds.filterMap f), n)
  | [], _ => rfl
  | d :: ds, h => by
    have h1 := h d List.mem_cons_self
    have h2 := compD_map b f n ds fun x hx => h x (List.mem_cons_of_mem _ hx)
    rw [compD_cons]
    simp only [bind_ap, h1, h2, pure_ap, List.filterMap_cons, bindR_ok]
    cases f d <;> rfl
/-- a loop that searches: it leaves with a value at the first hit -/
theorem forD_find (i : Nat) (b : SX) (p : D → Bool) (r : D → D) (ρ : Env) (n : Int) : ∀ (ds : List D) (s0 : Sl), (∀ d ∈ ds, b (ρ.set i (.val d)) n = some (.ok (if p d then .ret (r d) else .nx (ρ.set i (.val d))), n)) →
    ∃ s, forD (gV i) b ds (ρ.set i s0) n = some (.ok (findK (ds.find? p) r (ρ.set i s)), n)
  | [], s0, _ => ⟨s0, rfl⟩
  | d :: ds, s0, h => by
    have h1 := h d List.mem_cons_self
    obtain ⟨s, h2⟩ := forD_find i b p r ρ n ds (.val d) fun x hx => h x (List.mem_cons_of_mem _ hx)
    rw [forD_cons]
    simp only [bind_ap, gV_ap, opt_some, List.set_set, h1, bindR_ok]
    cases hp : p d with
    | true => exact ⟨s0, by simp [hp]⟩
    | false => exact ⟨s, by simp [hp, h2]⟩
/-- a loop that checks: it goes through -/
theorem forD_all (i : Nat) (b : SX) (ρ : Env) (n : Int) (ds : List D) (s0 : Sl) (h : ∀ d ∈ ds, b (ρ.set i (.val d)) n = some (.ok (.nx (ρ.set i (.val d))), n)) :
    ∃ s, forD (gV i) b ds (ρ.set i s0) n = some (.ok (.nx (ρ.set i s)), n) := by
  obtain ⟨s, e⟩ := forD_find i b (fun _ => false) (fun d => d) ρ n ds s0 (fun d hd => by rw [h d hd]; rfl)
  refine ⟨s, ?_⟩
  rw [e]
  have : ds.find? (fun _ => false) = none := by simp
  rw [this, findK_none]
theorem mem_rngD {d : D} {lo hi : Int} (h : d ∈ rngD lo hi) : ∃ i : Int, d = .int i ∧ lo ≤ i ∧ i < hi := by
  unfold rngD at h
  obtain ⟨k, hk, e⟩ := List.mem_map.mp h
  rw [List.mem_range] at hk
  exact ⟨lo + k, e.symm, by omega, by omega⟩

/-! ### data that is compared -/
class PyE (α : Type) where
  enc : α → D
  py : α → PyData
  to : ∀ x, toPy (enc x) = some (py x)
  lay : ∀ x, (py x).canLay0 = true
  dep : ∀ x, (py x).depth ≤ 8
  eqv : ∀ x y, PyData.eqv (py x) (py y) = true ↔ x = y
theorem PyE.toAll {α : Type} [PyE α] : ∀ xs : List α, toPys (xs.map PyE.enc) = some (xs.map PyE.py)
  | [] => by simp [toPys]
  | x :: xs => by
    rw [List.map_cons, List.map_cons]
    unfold toPys
    rw [PyE.to, PyE.toAll xs]
theorem PyE.layAll {α : Type} [PyE α] : ∀ xs : List α, PyData.canLayAll0 (xs.map PyE.py) = true
  | [] => by simp [PyData.canLayAll0]
  | x :: xs => by
    rw [List.map_cons]
    unfold PyData.canLayAll0
    rw [PyE.lay, PyE.layAll xs]; rfl
theorem PyE.depAll {α : Type} [PyE α] : ∀ xs : List α, PyData.depthAll (xs.map PyE.py) ≤ 8
  | [] => by simp [PyData.depthAll]
  | x :: xs => by
    rw [List.map_cons]
    unfold PyData.depthAll
    have := PyE.dep x
    have := PyE.depAll xs
    omega
theorem PyE.eqvAll {α : Type} [PyE α] : ∀ xs ys : List α, PyData.eqvAll (xs.map PyE.py) (ys.map PyE.py) = true ↔ xs = ys
  | [], [] => by simp [PyData.eqvAll]
  | [], y :: ys => by simp [PyData.eqvAll]
  | x :: xs, [] => by simp [PyData.eqvAll]
  | x :: xs, y :: ys => by
    rw [List.map_cons, List.map_cons]
    unfold PyData.eqvAll
    rw [Bool.and_eq_true, PyE.eqv, PyE.eqvAll xs ys]
    simp
theorem PyE.shaped {α : Type} [PyE α] (x : α) : SeqAt.shaped (PyE.py x) = true := by
  unfold SeqAt.shaped
  have := PyE.dep x
  rw [PyE.lay]; simp; omega
theorem bool_dec {b : Bool} {p : Prop} [Decidable p] (h : b = true ↔ p) : b = decide p := by
  by_cases q : p
  · rw [decide_eq_true q]; exact h.mpr q
  · rw [decide_eq_false q]
    cases b with
    | true => exact absurd (h.mp rfl) q
    | false => rfl
theorem dEqB_enc {α : Type} [PyE α] [DecidableEq α] (x y : α) : dEqB (PyE.enc x) (PyE.enc y) = some (decide (x = y)) := by
  unfold dEqB
  simp only [PyE.to, PyE.shaped, Bool.and_self, if_true]
  rw [bool_dec (PyE.eqv x y)]
theorem dEq_enc {α : Type} [PyE α] [DecidableEq α] (x y : α) : dEq (PyE.enc x) (PyE.enc y) = some (.bl (decide (x = y))) := by
  unfold dEq; rw [dEqB_enc]
theorem dNe_enc {α : Type} [PyE α] [DecidableEq α] (x y : α) : dNe (PyE.enc x) (PyE.enc y) = some (.bl (!decide (x = y))) := by
  unfold dNe; rw [dEqB_enc]
/-- tuples and lists of such -/
def encT {α : Type} [PyE α] (xs : List α) : D := .tup (xs.map PyE.enc)
def encL {α : Type} [PyE α] (xs : List α) : D := .lst (xs.map PyE.enc)
theorem dEqB_T {α : Type} [PyE α] [DecidableEq α] (x y : List α) : dEqB (encT x) (encT y) = some (decide (x = y)) := by
  unfold dEqB encT
  have s : ∀ x : List α, SeqAt.shaped (.tuple (x.map PyE.py)) = true := fun x => by
    unfold SeqAt.shaped PyData.canLay0 PyData.depth
    have := PyE.depAll x
    rw [PyE.layAll]; simp; omega
  unfold toPy
  rw [PyE.toAll, PyE.toAll]
  simp only [s, Bool.and_self, if_true]
  unfold PyData.eqv
  rw [bool_dec (PyE.eqvAll x y)]
theorem dEqB_L {α : Type} [PyE α] [DecidableEq α] (x y : List α) : dEqB (encL x) (encL y) = some (decide (x = y)) := by
  unfold dEqB encL
  have s : ∀ x : List α, SeqAt.shaped (.list (x.map PyE.py)) = true := fun x => by
    unfold SeqAt.shaped PyData.canLay0 PyData.depth
    have := PyE.depAll x
    rw [PyE.layAll]; simp; omega
  unfold toPy
  rw [PyE.toAll, PyE.toAll]
  simp only [s, Bool.and_self, if_true]
  unfold PyData.eqv
  rw [bool_dec (PyE.eqvAll x y)]
theorem dEq_T {α : Type} [PyE α] [DecidableEq α] (x y : List α) : dEq (encT x) (encT y) = some (.bl (decide (x = y))) := by unfold dEq; rw [dEqB_T]
theorem dNe_T {α : Type} [PyE α] [DecidableEq α] (x y : List α) : dNe (encT x) (encT y) = some (.bl (!decide (x = y))) := by unfold dNe; rw [dEqB_T]
theorem dEq_L {α : Type} [PyE α] [DecidableEq α] (x y : List α) : dEq (encL x) (encL y) = some (.bl (decide (x = y))) := by unfold dEq; rw [dEqB_L]
theorem dNe_L {α : Type} [PyE α] [DecidableEq α] (x y : List α) : dNe (encL x) (encL y) = some (.bl (!decide (x = y))) := by unfold dNe; rw [dEqB_L]
instance : PyE Int where
  enc := D.int
  py := PyData.int
  to := fun x => by unfold toPy; rfl
  lay := fun x => by unfold PyData.canLay0; rfl
  dep := fun x => by unfold PyData.depth; omega
  eqv := fun x y => by unfold PyData.eqv; simp
@[simp] theorem dEq_int (i j : Int) : dEq (.int i) (.int j) = some (.bl (decide (i = j))) := dEq_enc (α := Int) i j
@[simp] theorem dNe_int (i j : Int) : dNe (.int i) (.int j) = some (.bl (!decide (i = j))) := dNe_enc (α := Int) i j
@[simp] theorem dLt_int (i j : Int) : dLt (.int i) (.int j) = some (.bl (decide (i < j))) := (rfl)
@[simp] theorem dLe_int (i j : Int) : dLe (.int i) (.int j) = some (.bl (decide (i ≤ j))) := (rfl)
@[simp] theorem dGt_int (i j : Int) : dGt (.int i) (.int j) = some (.bl (decide (j < i))) := (rfl)
@[simp] theorem dGe_int (i j : Int) : dGe (.int i) (.int j) = some (.bl (decide (j ≤ i))) := (rfl)
@[simp] theorem dAdd_int (i j : Int) : dAdd (.int i) (.int j) = some (.int (i + j)) := (rfl)
@[simp] theorem dSub_int (i j : Int) : dSub (.int i) (.int j) = some (.int (i - j)) := (rfl)
@[simp] theorem dNeg_int (i : Int) : dNeg (.int i) = some (.int (-i)) := (rfl)
theorem dMul_int {i j : Int} (h : small64 i = true ∨ small64 j = true) : dMul (.int i) (.int j) = some (.int (i * j)) := by
  exact if_pos (by rw [Bool.or_eq_true]; exact h)
theorem dMod_int {i j : Int} (h : 0 < j) : dMod (.int i) (.int j) = some (.int (i % j)) := by
  exact if_pos (decide_eq_true h)
theorem dDiv_int {i j : Int} (h : 0 < j) (h2 : j < 1073741824) : dDiv (.int i) (.int j) = some (.int (i / j)) := by
  exact if_pos (by simp only [Bool.and_eq_true, decide_eq_true_eq]; exact ⟨h, h2⟩)
@[simp] theorem dLen_tup (xs : List D) : dLen [.tup xs] = some (.int xs.length) := (rfl)
@[simp] theorem dLen_lst (xs : List D) : dLen [.lst xs] = some (.int xs.length) := (rfl)
@[simp] theorem dLen_T {α : Type} [PyE α] (xs : List α) : dLen [encT xs] = some (.int xs.length) := by simp [encT]
theorem dAdd_T {α : Type} [PyE α] {xs ys : List α} (h : xs.length + ys.length ≤ 16777216) : dAdd (encT xs) (encT ys) = some (encT (xs ++ ys)) := by
  unfold dAdd encT
  simp only [← List.map_append]
  rw [mkTup_of (by simpa using h)]
theorem rep_map {α β : Type} (f : α → β) (xs : List α) (k : Nat) : (List.replicate k (xs.map f)).flatten = ((List.replicate k xs).flatten).map f := by
  induction k with
  | zero => rfl
  | succ k ih => rw [List.replicate_succ, List.replicate_succ, List.flatten_cons, List.flatten_cons, ih, List.map_append]
/-- xs, k times -/
def pw {α : Type} (xs : List α) (k : Nat) : List α := (List.replicate k xs).flatten
theorem pw_zero {α : Type} (xs : List α) : pw xs 0 = [] := rfl
theorem pw_succ {α : Type} (xs : List α) (k : Nat) : pw xs (k + 1) = xs ++ pw xs k := by unfold pw; rw [List.replicate_succ, List.flatten_cons]
theorem pw_length {α : Type} (xs : List α) : ∀ k : Nat, (pw xs k).length = k * xs.length
  | 0 => by simp [pw_zero]
  | k + 1 => by rw [pw_succ, List.length_append, pw_length xs k, Nat.succ_mul]; omega
theorem dMul_T {α : Type} [PyE α] {xs : List α} {k : Nat} (h : k ≤ 1000) (h2 : xs.length ≤ 1000) : dMul (encT xs) (.int k) = some (encT (pw xs k)) := by
  unfold dMul encT pw
  have a : ((xs.length : Nat) : Int) * (k : Int) ≤ 1000000 := by
    have : xs.length * k ≤ 1000 * 1000 := Nat.mul_le_mul h2 h
    have : ((xs.length * k : Nat) : Int) ≤ 1000000 := by omega
    rw [Int.natCast_mul] at this; exact this
  refine (if_pos (by simp only [List.length_map, Bool.and_eq_true, decide_eq_true_eq]; exact ⟨⟨by omega, by omega⟩, a⟩)).trans ?_
  rw [Int.toNat_natCast, rep_map]
theorem cut_map {α : Type} [PyE α] (xs : List α) (lo hi : Option Int) : dCut (encT xs) lo hi = some (encT ((xs.drop (HT.sIx xs.length 0 lo)).take (HT.sIx xs.length xs.length hi - HT.sIx xs.length 0 lo))) := by
  unfold dCut encT cutD
  simp only [List.length_map, List.map_take, List.map_drop]
theorem sIx_neg1 (n d : Nat) : HT.sIx n d (some (-1)) = n - 1 := by
  unfold HT.sIx
  simp
  omega
@[simp] theorem cut_from {α : Type} [PyE α] (xs : List α) (k : Nat) : dCut (encT xs) (some (k : Int)) none = some (encT (xs.drop k)) := by
  rw [cut_map, HT.sIx_nat, HT.sIx_none]
  congr 2
  by_cases h : k ≤ xs.length
  · rw [Nat.min_eq_left h, List.take_of_length_le (by simp)]
  · rw [Nat.min_eq_right (by omega), List.drop_eq_nil_of_le (by omega), List.drop_eq_nil_of_le (by omega)]; simp
@[simp] theorem cut_to {α : Type} [PyE α] (xs : List α) (k : Nat) : dCut (encT xs) none (some (k : Int)) = some (encT (xs.take k)) := by
  rw [cut_map, HT.sIx_nat, HT.sIx_none]
  congr 2
  simp only [List.drop_zero, Nat.sub_zero]
  by_cases h : k ≤ xs.length
  · rw [Nat.min_eq_left h]
  · rw [Nat.min_eq_right (by omega), List.take_of_length_le (by omega), List.take_of_length_le (by omega)]
@[simp] theorem cut_last {α : Type} [PyE α] (xs : List α) : dCut (encT xs) (some (-1)) none = some (encT (xs.drop (xs.length - 1))) := by
  rw [cut_map, sIx_neg1, HT.sIx_none]
  congr 2
  rw [List.take_of_length_le (by simp)]
@[simp] theorem cut_init {α : Type} [PyE α] (xs : List α) : dCut (encT xs) none (some (-1)) = some (encT xs.dropLast) := by
  rw [cut_map, sIx_neg1, HT.sIx_none]
  congr 2
  rw [List.drop_zero, Nat.sub_zero, List.dropLast_eq_take]
theorem ix_last {α : Type} [PyE α] {xs : List α} {x : α} (h : xs.getLast? = some x) : dIx (encT xs) (.int (-1)) = some (PyE.enc x) := by
  unfold dIx encT
  rw [List.getLast?_eq_some_iff] at h
  obtain ⟨ys, rfl⟩ := h
  rw [List.map_append]
  exact atI_last _ _
theorem ix_nat {α : Type} [PyE α] {xs : List α} {x : α} {j : Nat} (h : xs[j]? = some x) : dIx (encT xs) (.int (j : Int)) = some (PyE.enc x) := by
  unfold dIx encT
  exact atI_nat (by rw [List.getElem?_map, h]; rfl)
theorem dNe_nil {α : Type} [PyE α] [DecidableEq α] (xs : List α) : dNe (encT xs) (.tup []) = some (.bl (!decide (xs = []))) := dNe_T xs []
theorem dEq_nil {α : Type} [PyE α] [DecidableEq α] (xs : List α) : dEq (encT xs) (.tup []) = some (.bl (decide (xs = []))) := dEq_T xs []
theorem ix_lastc {α : Type} [PyE α] (xs : List α) (x : α) : dIx (encT (xs ++ [x])) (.int (-1)) = some (PyE.enc x) := ix_last (by simp)
theorem cut_lastc {α : Type} [PyE α] (xs : List α) (x : α) : dCut (encT (xs ++ [x])) (some (-1)) none = some (encT [x]) := by
  rw [cut_last]
  congr 2
  simp
theorem cut_initc {α : Type} [PyE α] (xs : List α) (x : α) : dCut (encT (xs ++ [x])) none (some (-1)) = some (encT xs) := by
  rw [cut_init, List.dropLast_concat]
/-- a loop by what holds between two turns -/
theorem forD_inv (g : GX) (b : SX) (I : Env → Int → Prop) : ∀ (ds : List D), (∀ d ∈ ds, ∀ ρ n, I ρ n → ∃ ρ1 ρ2 n2, g d ρ = some ρ1 ∧ b ρ1 n = some (.ok (.nx ρ2), n2) ∧ I ρ2 n2) → ∀ ρ n, I ρ n → ∃ ρ' n', forD g b ds ρ n = some (.ok (.nx ρ'), n') ∧ I ρ' n'
  | [], _, ρ, n, h => ⟨ρ, n, rfl, h⟩
  | d :: ds, hb, ρ, n, h => by
    obtain ⟨ρ1, ρ2, n2, h1, h2, h3⟩ := hb d List.mem_cons_self ρ n h
    obtain ⟨ρ', n', h4, h5⟩ := forD_inv g b I ds (fun x hx => hb x (List.mem_cons_of_mem _ hx)) ρ2 n2 h3
    exact ⟨ρ', n', by rw [forD_cons]; simp [h1, h2, h4], h5⟩
/-- a comprehension whose elements may draw -/
theorem compD_ex {α : Type} [PyE α] (b : D → M (Option D)) : ∀ (ds : List D) (n : Int), (∀ d ∈ ds, ∀ n, ∃ x : α, ∃ n', b d n = some (.ok (some (PyE.enc x)), n')) → ∃ xs : List α, ∃ n', compD b ds n = some (.ok (xs.map PyE.enc), n') ∧ xs.length = ds.length
  | [], n, _ => ⟨[], n, rfl, rfl⟩
  | d :: ds, n, h => by
    obtain ⟨x, n1, h1⟩ := h d List.mem_cons_self n
    obtain ⟨xs, n2, h2, h3⟩ := compD_ex b ds n1 fun y hy => h y (List.mem_cons_of_mem _ hy)
    exact ⟨x :: xs, n2, by rw [compD_cons]; simp [h1, h2], by simp [h3]⟩
theorem rngD_length (lo hi : Int) : (rngD lo hi).length = (hi - lo).toNat := by simp [rngD]
theorem dEqB_bl (a b : Bool) : dEqB (.bl a) (.bl b) = some (a == b) := by
  unfold dEqB toPy
  have s : ∀ a : Bool, SeqAt.shaped (.bool a) = true := fun a => by cases a <;> decide +kernel
  simp only [s, Bool.and_self, if_true]
  unfold PyData.eqv
  rfl
@[simp] theorem dNe_bl (a b : Bool) : dNe (.bl a) (.bl b) = some (.bl (!(a == b))) := by unfold dNe; rw [dEqB_bl]
@[simp] theorem dEq_bl (a b : Bool) : dEq (.bl a) (.bl b) = some (.bl (a == b)) := by unfold dEq; rw [dEqB_bl]
@[simp] theorem dNe_non : dNe .non .non = some (.bl false) := by
  have : dEqB .non .non = some true := by unfold dEqB toPy; decide +kernel
  unfold dNe; rw [this]; rfl
end DL
end

section
set_option Elab.async false
set_option linter.all false
set_option autoImplicit false
/-! words as turns of a core: the plain law -/
namespace K11
open DL
variable {α : Type} [DecidableEq α]
def cyc (w : List α) (i : Nat) : Option α := w[i % w.length]?
theorem cyc_lt {w : List α} {i : Nat} (h : i < w.length) : cyc w i = w[i]? := by unfold cyc; rw [Nat.mod_eq_of_lt h]
theorem cyc_per (w : List α) (i : Nat) : cyc w (i + w.length) = cyc w i := by unfold cyc; rw [Nat.add_mod_right]
theorem per_mul {f : Nat → Option α} {p : Nat} (h : ∀ i, f (i + p) = f i) : ∀ k i, f (i + k * p) = f i
  | 0, i => by simp
  | k + 1, i => by rw [Nat.succ_mul, ← Nat.add_assoc, h, per_mul h k]
theorem pw_get (w : List α) : ∀ (k i : Nat), (pw w k)[i]? = if i < k * w.length then cyc w i else none
  | 0, i => by simp [pw_zero]
  | k + 1, i => by
    rw [pw_succ]
    by_cases h : i < w.length
    · rw [List.getElem?_append_left h, if_pos (by rw [Nat.succ_mul]; omega), cyc_lt h]
    · rw [List.getElem?_append_right (by omega), pw_get w k]
      have e : cyc w (i - w.length) = cyc w i := by
        have := cyc_per w (i - w.length)
        rw [Nat.sub_add_cancel (by omega)] at this
        exact this.symm
      rw [e]
      have : (i - w.length < k * w.length) ↔ (i < (k + 1) * w.length) := by rw [Nat.succ_mul]; omega
      simp only [this]
/-- turning a word by m leaves it as it is -/
def Rot (w : List α) (m : Nat) : Prop := w.length % m = 0 ∧ w.drop m ++ w.take m = w
instance (w : List α) (m : Nat) : Decidable (Rot w m) := by unfold Rot; infer_instance
theorem turn_get (w : List α) (m i : Nat) (hm : m ≤ w.length) (hi : i < w.length) : (w.drop m ++ w.take m)[i]? = cyc w (i + m) := by
  by_cases h : i < w.length - m
  · rw [List.getElem?_append_left (by simpa using h), List.getElem?_drop, Nat.add_comm, cyc_lt (by omega)]
  · rw [List.getElem?_append_right (by simp; omega), List.length_drop, List.getElem?_take, if_pos (by omega)]
    unfold cyc
    have : (i + m) % w.length = i - (w.length - m) := by
      have e : i + m = (i - (w.length - m)) + w.length := by omega
      rw [e, Nat.add_mod_right, Nat.mod_eq_of_lt (by omega)]
    rw [this]
theorem rot_iff {w : List α} {m : Nat} (h0 : w ≠ []) (hm : m ≤ w.length) : (w.drop m ++ w.take m = w) ↔ ∀ i, cyc w (i + m) = cyc w i := by
  have hl : 0 < w.length := List.length_pos_iff.mpr h0
  constructor
  · intro h i
    have key : ∀ j, j < w.length → cyc w (j + m) = cyc w j := fun j hj => by
      rw [← turn_get w m j hm hj, h, cyc_lt hj]
    have := key (i % w.length) (Nat.mod_lt _ hl)
    unfold cyc at this ⊢
    rw [Nat.mod_mod] at this
    rw [← this, Nat.mod_add_mod]
  · intro h
    apply List.ext_getElem?
    intro i
    by_cases hi : i < w.length
    · rw [turn_get w m i hm hi, h, cyc_lt hi]
    · rw [List.getElem?_eq_none (by simp; omega), List.getElem?_eq_none (by omega)]
/-- what is told of a family -/
structure Fam (α : Type) where
  L : List α
  C : List α
  R : List α
  rate : Nat
  more : Nat
  deriving DecidableEq
def Fam.w (f : Fam α) (n : Nat) : List α := f.L ++ pw f.C (f.rate * n + f.more) ++ f.R
structure Good (L0 G R0 : List α) (f : Fam α) : Prop where
  word : ∀ n, L0 ++ pw G n ++ R0 = f.w n
  ne : f.C ≠ []
  len : G.length = f.rate * f.C.length
  prim : ∀ k, 1 ≤ k → k < f.C.length → G.length % k = 0 → ¬ ∀ i, cyc f.C (i + k) = cyc f.C i
  left : f.L = [] ∨ f.L.getLast? ≠ f.C.getLast?
  right : f.R.take f.C.length ≠ f.C
  short : f.L.length ≤ L0.length
theorem last_get (w : List α) (h : w ≠ []) : w.getLast? = cyc w (w.length - 1) := by
  have : 0 < w.length := List.length_pos_iff.mpr h
  rw [cyc_lt (by omega), List.getLast?_eq_getElem?]
/-- within the turns -/
theorem run_get (f : Fam α) (n i : Nat) (h : i < (f.rate * n + f.more) * f.C.length) : (f.w n)[f.L.length + i]? = cyc f.C i := by
  unfold Fam.w
  rw [List.append_assoc, List.getElem?_append_right (by omega), Nat.add_sub_cancel_left, List.getElem?_append_left (by rw [pw_length]; exact h), pw_get, if_pos h]
theorem w_length (f : Fam α) (n : Nat) : (f.w n).length = f.L.length + (f.rate * n + f.more) * f.C.length + f.R.length := by
  unfold Fam.w; rw [List.length_append, List.length_append, pw_length]
theorem least_eq {C C' : List α} {g a a' : Nat} (hne : C ≠ []) (hne' : C' ≠ []) (hp : C.length ∣ g) (hp' : C'.length ∣ g) (hg : 0 < g)
    (prim : ∀ k, 1 ≤ k → k < C.length → g % k = 0 → ¬ ∀ i, cyc C (i + k) = cyc C i) (h : ∀ i, i < g → cyc C (a + i) = cyc C' (a' + i)) : C.length ≤ C'.length := by
  have l1 : 0 < C.length := List.length_pos_iff.mpr hne
  have l2 : 0 < C'.length := List.length_pos_iff.mpr hne'
  apply Nat.le_of_not_lt
  intro hlt
  have all : ∀ i, cyc C (a + i) = cyc C' (a' + i) := fun i => by
    obtain ⟨u, hu⟩ := hp
    obtain ⟨v, hv⟩ := hp'
    have e := h (i % g) (Nat.mod_lt _ hg)
    have e1 : cyc C (a + i) = cyc C (a + i % g) := by
      have := per_mul (cyc_per C) (u * (i / g)) (a + i % g)
      rw [← this]
      congr 1
      have q := Nat.mod_add_div i g
      have : u * (i / g) * C.length = g * (i / g) := by rw [Nat.mul_right_comm, Nat.mul_comm u, ← hu]
      omega
    have e2 : cyc C' (a' + i) = cyc C' (a' + i % g) := by
      have := per_mul (cyc_per C') (v * (i / g)) (a' + i % g)
      rw [← this]
      congr 1
      have q := Nat.mod_add_div i g
      have : v * (i / g) * C'.length = g * (i / g) := by rw [Nat.mul_right_comm, Nat.mul_comm v, ← hv]
      omega
    rw [e1, e2, e]
  refine prim C'.length l2 hlt (Nat.mod_eq_zero_of_dvd hp') fun i => ?_
  have k1 : ∀ j, cyc C (j + a * C.length) = cyc C j := fun j => per_mul (cyc_per C) a j
  have hle : a ≤ a * C.length := Nat.le_mul_of_pos_right a l1
  have e1 := all (i + (a * C.length - a) + C'.length)
  have e2 := all (i + (a * C.length - a))
  rw [show a' + (i + (a * C.length - a) + C'.length) = (a' + (i + (a * C.length - a))) + C'.length by omega, cyc_per, ← e2] at e1
  rw [← k1 (i + C'.length), ← k1 i]
  rw [show i + C'.length + a * C.length = a + (i + (a * C.length - a) + C'.length) by omega, show i + a * C.length = a + (i + (a * C.length - a)) by omega]
  exact e1
theorem left_le {f f' : Fam α} {n : Nat} (hC : f.C ≠ []) (hC' : f'.C ≠ []) (hp : f.C.length = f'.C.length) (hw : f.w n = f'.w n) (hl : f'.L = [] ∨ f'.L.getLast? ≠ f'.C.getLast?)
    (b : f'.L.length + f.C.length ≤ f.L.length + (f.rate * n + f.more) * f.C.length) (b' : 1 ≤ f'.rate * n + f'.more) : f'.L.length ≤ f.L.length := by
  apply Nat.le_of_not_lt
  intro hlt
  have l1 : 0 < f.C.length := List.length_pos_iff.mpr hC
  rcases hl with hl | hl
  · rw [hl] at hlt; simp at hlt
  · apply hl
    have hne : f'.L ≠ [] := fun e => by rw [e] at hlt; simp at hlt
    have e1 : (f'.w n)[f'.L.length - 1]? = f'.L.getLast? := by
      unfold Fam.w
      rw [List.append_assoc, List.getElem?_append_left (by omega), List.getLast?_eq_getElem?]
    have bb : (f'.rate * n + f'.more) * f'.C.length ≥ f'.C.length := Nat.le_mul_of_pos_left _ b'
    have e2 : (f'.w n)[f'.L.length + (f'.C.length - 1)]? = f'.C.getLast? := by
      rw [run_get f' n _ (by omega), last_get f'.C hC']
    have e3 : (f.w n)[f'.L.length - 1]? = cyc f.C (f'.L.length - 1 - f.L.length) := by
      have := run_get f n (f'.L.length - 1 - f.L.length) (by omega)
      rw [show f.L.length + (f'.L.length - 1 - f.L.length) = f'.L.length - 1 by omega] at this
      exact this
    have e4 : (f.w n)[f'.L.length + (f'.C.length - 1)]? = cyc f.C (f'.L.length - 1 - f.L.length + f.C.length) := by
      have := run_get f n (f'.L.length - 1 - f.L.length + f.C.length) (by omega)
      rw [show f.L.length + (f'.L.length - 1 - f.L.length + f.C.length) = f'.L.length + (f'.C.length - 1) by omega] at this
      exact this
    rw [← e1, ← e2, ← hw, e3, e4, cyc_per]
theorem more_le {C R R' : List α} {m m' : Nat} (h : pw C m ++ R = pw C m' ++ R') (hr : R.take C.length ≠ C) : m' ≤ m := by
  induction m generalizing m' with
  | zero =>
    cases m' with
    | zero => exact Nat.le_refl _
    | succ k =>
      rw [pw_zero, List.nil_append, pw_succ, List.append_assoc] at h
      exact absurd (by rw [h]; simp) hr
  | succ m ih =>
    cases m' with
    | zero => exact Nat.zero_le _
    | succ k =>
      rw [pw_succ, pw_succ, List.append_assoc, List.append_assoc] at h
      have := ih (List.append_cancel_left h)
      omega
/-- the least form is one alone -/
theorem unique {L0 G R0 L0' G' R0' : List α} {f f' : Fam α} (a : Good L0 G R0 f) (a' : Good L0' G' R0' f') (hG : G ≠ [])
    (w0 : f.w 0 = f'.w 0) (w1 : f.w 1 = f'.w 1) (w12 : f.w 12 = f'.w 12) (b : f.L.length ≤ 11 * G.length) (b' : f'.L.length ≤ 11 * G.length) : f = f' := by
  have hg : 0 < G.length := List.length_pos_iff.mpr hG
  have l1 : 0 < f.C.length := List.length_pos_iff.mpr a.ne
  have l2 : 0 < f'.C.length := List.length_pos_iff.mpr a'.ne
  have n0 := congrArg List.length w0
  have n1 := congrArg List.length w1
  have n12 := congrArg List.length w12
  rw [w_length, w_length] at n0 n1 n12
  simp only [Nat.mul_zero, Nat.zero_add, Nat.mul_one, Nat.add_mul] at n0 n1 n12
  rw [← a.len, ← a'.len] at n1
  have gg : G.length = G'.length := by omega
  have r12 : f.rate * 12 * f.C.length = 12 * G.length := by rw [Nat.mul_right_comm, ← a.len, Nat.mul_comm]
  have r12' : f'.rate * 12 * f'.C.length = 12 * G.length := by rw [Nat.mul_right_comm, ← a'.len, ← gg, Nat.mul_comm]
  rw [r12, r12'] at n12
  have T : (f.rate * 12 + f.more) * f.C.length = 12 * G.length + f.more * f.C.length := by rw [Nat.add_mul, r12]
  have T' : (f'.rate * 12 + f'.more) * f'.C.length = 12 * G.length + f'.more * f'.C.length := by rw [Nat.add_mul, r12']
  have d1 : f.C.length ∣ G.length := ⟨f.rate, by rw [a.len, Nat.mul_comm]⟩
  have d2 : f'.C.length ∣ G.length := ⟨f'.rate, by rw [gg, a'.len, Nat.mul_comm]⟩
  let s := max f.L.length f'.L.length
  have hs1 : f.L.length ≤ s := Nat.le_max_left _ _
  have hs2 : f'.L.length ≤ s := Nat.le_max_right _ _
  have hs3 : s ≤ 11 * G.length := Nat.max_le.mpr ⟨b, b'⟩
  have same : ∀ i, i < G.length → cyc f.C (s - f.L.length + i) = cyc f'.C (s - f'.L.length + i) := fun i hi => by
    have e1 := run_get f 12 (s - f.L.length + i) (by rw [T]; omega)
    have e2 := run_get f' 12 (s - f'.L.length + i) (by rw [T']; omega)
    rw [← e1, ← e2, w12]
    congr 1
    omega
  have p1 := least_eq a.ne a'.ne d1 d2 hg a.prim same
  have p2 := least_eq a'.ne a.ne d2 d1 hg (by rw [gg]; exact a'.prim) fun i hi => (same i hi).symm
  have pp : f.C.length = f'.C.length := Nat.le_antisymm p1 p2
  have ple : f.C.length ≤ G.length := Nat.le_of_dvd hg d1
  have rr : f.rate = f'.rate := by
    have := a.len
    rw [gg, a'.len, pp] at this
    exact (Nat.eq_of_mul_eq_mul_right l2 this).symm
  have hr : 1 ≤ f.rate := by
    have := a.len
    apply Nat.pos_of_ne_zero
    intro e
    rw [e, Nat.zero_mul] at this
    omega
  have q1 := left_le a.ne a'.ne pp w12 a'.left (by rw [T]; omega) (by omega)
  have q2 := left_le a'.ne a.ne pp.symm w12.symm a.left (by rw [T']; omega) (by omega)
  have ll : f.L.length = f'.L.length := Nat.le_antisymm q2 q1
  have eL : f.L = f'.L := by
    have h := w12
    unfold Fam.w at h
    rw [List.append_assoc, List.append_assoc] at h
    exact (List.append_inj h ll).1
  have eC : f.C = f'.C := by
    apply List.ext_getElem?
    intro i
    by_cases hi : i < f.C.length
    · have e1 := run_get f 12 i (by rw [T]; omega)
      have e2 := run_get f' 12 i (by rw [T']; omega)
      rw [← cyc_lt hi, ← cyc_lt (by omega), ← e1, ← e2, w12, ll]
    · rw [List.getElem?_eq_none (by omega), List.getElem?_eq_none (by omega)]
  have h := w0
  unfold Fam.w at h
  rw [List.append_assoc, List.append_assoc, eL, eC] at h
  have h := List.append_cancel_left h
  simp only [Nat.mul_zero, Nat.zero_add] at h
  have m1 := more_le h (by rw [← eC]; exact a.right)
  have m2 := more_le h.symm a'.right
  have mm : f.more = f'.more := Nat.le_antisymm m2 m1
  rw [mm] at h
  have eR := List.append_cancel_left h
  cases f; cases f'
  simp only at eL eC eR rr mm
  subst eL eC eR rr mm
  rfl
end K11
end

section
set_option Elab.async false
set_option linter.all false
set_option autoImplicit false
set_option maxRecDepth 100000
namespace K11
open DL PySem L2 P_k11_whole_families
inductive Cell where
  | k | p
  deriving DecidableEq
def Cell.s : Cell → Str | .k => "k" | .p => "p"
instance : PyE Cell where
  enc := fun c => .tup [.str c.s, .str "a"]
  py := fun c => .tuple [.str c.s, .str "a"]
  to := fun c => by simp [toPy, toPys]
  lay := fun c => by cases c <;> decide +kernel
  dep := fun c => by cases c <;> decide +kernel
  eqv := fun x y => by cases x <;> cases y <;> decide +kernel
abbrev Word := List Cell
def rp (w : Word) : D → Bool := fun d => match d with | .int i => decide (Rot w i.toNat) | _ => false
def rr (w : Word) : D → D := fun d => match d with | .int i => encT (w.take i.toNat) | _ => .non
def rbody : SX := (sIf (tAndD (tB (e2 dEq (e2 dMod (eB dLen (eCons (eVar 0) eNil)) (eVar 1)) (eC (.int 0)))) (tB (e2 dEq (e2 dAdd (eCut (eVar 0) (oSome (eVar 1)) oNone) (eCut (eVar 0) oNone (oSome (eVar 1)))) (eVar 0)))) (sRet (eCut (eVar 0) oNone (oSome (eVar 1)))) sNx)
theorem root_step (w : Word) (hl : w.length ≤ 1000) (n : Int) (d : D) (hd : d ∈ rngD 1 ((w.length : Int) + 1)) : rbody (([.val (encT w), .no] : DL.Env).set 1 (.val d)) n = some (.ok (if rp w d then .ret (rr w d) else .nx (([.val (encT w), .no] : DL.Env).set 1 (.val d))), n) := by
  obtain ⟨i, rfl, h1, h2⟩ := mem_rngD hd
  obtain ⟨m, rfl⟩ : ∃ m : Nat, i = (m : Int) := ⟨i.toNat, by omega⟩
  have hm : (0 : Int) < (m : Int) := by omega
  have a1 : w.length ≤ 16777216 := by omega
  have a2 : (w.drop m).length + (w.take m).length ≤ 16777216 := by simp; omega
  have hr : (Rot w m) ↔ ((w.length : Int) % (m : Int) = 0 ∧ w.drop m ++ w.take m = w) := by
    unfold Rot
    have : ((w.length : Int) % (m : Int) = 0) ↔ (w.length % m = 0) := by omega
    rw [this]
  have hp : rp w (.int m) = decide ((w.length : Int) % (m : Int) = 0 ∧ w.drop m ++ w.take m = w) := by
    show decide (Rot w (Int.toNat (m : Int))) = _
    rw [Int.toNat_natCast]
    exact decide_eq_decide.mpr hr
  have hrr : rr w (.int m) = encT (w.take m) := rfl
  rw [hp, hrr]
  unfold rbody
  by_cases q1 : (w.length : Int) % (m : Int) = 0
  · by_cases q2 : w.drop m ++ w.take m = w
    · simp [dMod_int hm, dAdd_T a2, dEq_T, q1, q2]
    · simp [dMod_int hm, dAdd_T a2, dEq_T, q1, q2]
  · simp [dMod_int hm, dAdd_T a2, dEq_T, q1]
theorem root_find (w : Word) (h0 : w ≠ []) : ∃ m : Nat, 1 ≤ m ∧ m ≤ w.length ∧ Rot w m ∧ (∀ k, 1 ≤ k → k < m → ¬ Rot w k) ∧ (rngD 1 ((w.length : Int) + 1)).find? (rp w) = some (.int m) := by
  have l1 : 0 < w.length := List.length_pos_iff.mpr h0
  have hex : ∃ m, 1 ≤ m ∧ m ≤ w.length ∧ Rot w m := ⟨w.length, l1, Nat.le_refl _, by simp [Rot]⟩
  have hl2 : (((w.length : Int) + 1) - 1).toNat = w.length := by omega
  cases hf : (rngD 1 ((w.length : Int) + 1)).find? (rp w) with
  | none =>
    obtain ⟨m, h1, h2, h3⟩ := hex
    rw [List.find?_eq_none] at hf
    have := hf (.int m) (by
      unfold rngD
      rw [hl2]
      exact List.mem_map.mpr ⟨m - 1, List.mem_range.mpr (by omega), by congr 1; omega⟩)
    exact absurd (show rp w (.int m) = true by show decide (Rot w (Int.toNat (m : Int))) = true; rw [Int.toNat_natCast]; exact decide_eq_true h3) this
  | some d =>
    unfold rngD at hf
    rw [hl2, List.find?_map] at hf
    obtain ⟨j, e1, e2⟩ := Option.map_eq_some_iff.mp hf
    rw [List.find?_range_eq_some] at e1
    obtain ⟨q1, q2, q3⟩ := e1
    have q2 := List.mem_range.mp q2
    refine ⟨j + 1, by omega, by omega, ?_, fun k hk1 hk2 hk3 => ?_, ?_⟩
    · have : decide (Rot w (Int.toNat (1 + (j : Int)))) = true := q1
      rw [show Int.toNat (1 + (j : Int)) = j + 1 by omega] at this
      exact of_decide_eq_true this
    · have := q3 (k - 1) (by omega)
      have this : (!decide (Rot w (Int.toNat (1 + ((k - 1 : Nat) : Int))))) = true := this
      rw [show Int.toNat (1 + ((k - 1 : Nat) : Int)) = k by omega, decide_eq_true hk3] at this
      cases this
    · rw [← e2]; congr 2; omega
theorem root_ok (w : Word) (h0 : w ≠ []) (hl : w.length ≤ 1000) : ∃ m, 1 ≤ m ∧ m ≤ w.length ∧ Rot w m ∧ (∀ k, 1 ≤ k → k < m → ¬ Rot w k) ∧ ∀ n, f_root_of [encT w] n = some (.ok (encT (w.take m)), n) := by
  obtain ⟨m, h1, h2, h3, h4, h5⟩ := root_find w h0
  refine ⟨m, h1, h2, h3, h4, fun n => ?_⟩
  obtain ⟨s, e⟩ := forD_find 1 rbody (rp w) (rr w) [.val (encT w), .no] n _ .no (root_step w hl n)
  rw [h5] at e
  have e2 : rr w (.int m) = encT (w.take m) := rfl
  have hs := dRng2_ok (i := 1) (j := (w.length : Int) + 1) (by omega) (by omega) (by omega) (by omega)
  simp only [List.set_cons_succ, List.set_cons_zero] at e
  unfold rbody at e
  simp [f_root_of, g_root_of, hs, e, e2]
end K11
end

section
set_option Elab.async false
set_option linter.all false
set_option autoImplicit false
set_option maxRecDepth 100000
namespace K11
open DL PySem L2 P_k11_whole_families
def EI (G L R C : Word) (rate more : Int) : DL.Env := [.own (.obj 0 [] []), .val (encT L), .val (encT G), .val (encT R), .val (encT C), .val (.int rate), .val (.int more)]
def t1 : TX := (tAndD (tB (e2 dNe (eVar 1) (eTup eNil))) (tB (e2 dEq (e2 dIx (eVar 1) (e1 dNeg (eC (.int 1)))) (e2 dIx (eVar 4) (e1 dNeg (eC (.int 1)))))))
def b1 : SX := (sPar [1, 3, 4] (eCons (eCut (eVar 1) oNone (oSome (e1 dNeg (eC (.int 1))))) (eCons (e2 dAdd (eCut (eVar 4) (oSome (e1 dNeg (eC (.int 1)))) oNone) (eVar 3)) (eCons (e2 dAdd (eCut (eVar 4) (oSome (e1 dNeg (eC (.int 1)))) oNone) (eCut (eVar 4) oNone (oSome (e1 dNeg (eC (.int 1)))))) eNil))))
def t2 : TX := (tB (e2 dEq (eCut (eVar 3) oNone (oSome (eB dLen (eCons (eVar 4) eNil)))) (eVar 4)))
def b2 : SX := (sPar [3, 6] (eCons (eCut (eVar 3) (oSome (eB dLen (eCons (eVar 4) eNil))) oNone) (eCons (e2 dAdd (eVar 6) (eC (.int 1))) eNil)))
theorem pw_shift (c : Word) (y : Cell) : ∀ m : Nat, [y] ++ pw (c ++ [y]) m = pw (y :: c) m ++ [y]
  | 0 => rfl
  | m + 1 => by
    rw [pw_succ, pw_succ, List.append_assoc, List.append_assoc, pw_shift c y m]
    simp
theorem cyc_shift (c : Word) (y : Cell) (i : Nat) : cyc (c ++ [y]) i = cyc (y :: c) (i + 1) := by
  unfold cyc
  have l1 : (c ++ [y]).length = c.length + 1 := by simp
  have l2 : (y :: c).length = c.length + 1 := by simp
  rw [l1, l2]
  have hm : i % (c.length + 1) < c.length + 1 := Nat.mod_lt _ (by omega)
  by_cases h : i % (c.length + 1) = c.length
  · have : (i + 1) % (c.length + 1) = 0 := by
      rw [Nat.add_mod, h]
      by_cases hc : c.length = 0
      · rw [hc]
      · rw [Nat.mod_eq_of_lt (show 1 < c.length + 1 by omega), Nat.mod_self]
    rw [h, this]
    simp
  · have : (i + 1) % (c.length + 1) = i % (c.length + 1) + 1 := by
      have hc : 1 < c.length + 1 := by omega
      rw [Nat.add_mod, Nat.mod_eq_of_lt hc, Nat.mod_eq_of_lt (by omega)]
    rw [this, List.getElem?_cons_succ, List.getElem?_append_left (by omega)]
theorem shift_ok (G : Word) (rate more : Int) : ∀ (k : Nat) (L R C : Word), L.length = k → C ≠ [] → C.length ≤ 1000 → R.length + L.length ≤ 1000 → ∃ L' R' C' : Word, (∀ m, k < m → ∀ n, whileD t1 b1 m (EI G L R C rate more) n = some (.ok (.nx (EI G L' R' C' rate more)), n)) ∧ C'.length = C.length ∧
    (∀ m, L ++ pw C m ++ R = L' ++ pw C' m ++ R') ∧ (L' = [] ∨ L'.getLast? ≠ C'.getLast?) ∧ (∃ s, ∀ i, cyc C i = cyc C' (i + s)) ∧ L'.length ≤ L.length ∧ R'.length ≤ R.length + L.length := by
  intro k
  induction k with
  | zero =>
    intro L R C hL hC hc hr
    have : L = [] := List.eq_nil_of_length_eq_zero hL
    subst this
    refine ⟨[], R, C, fun m hm n => ?_, rfl, fun _ => rfl, .inl rfl, ⟨0, fun _ => rfl⟩, Nat.le_refl _, by simp⟩
    obtain ⟨m, rfl⟩ : ∃ j, m = j + 1 := ⟨m - 1, by omega⟩
    rw [whileD_s]
    simp [t1, EI, dNe_nil]
  | succ k ih =>
    intro L R C hL hC hc hr
    obtain ⟨l, x, rfl⟩ : ∃ l x, L = l ++ [x] := ⟨L.dropLast, L.getLast (fun e => by rw [e] at hL; simp at hL), (List.dropLast_concat_getLast _).symm⟩
    obtain ⟨c, y, rfl⟩ : ∃ c y, C = c ++ [y] := ⟨C.dropLast, C.getLast hC, (List.dropLast_concat_getLast _).symm⟩
    by_cases hxy : x = y
    · subst hxy
      have hl : l.length = k := by simpa using hL
      simp only [List.length_append, List.length_singleton] at hc hr
      obtain ⟨L', R', C', h1, h2, h3, h4, h5, h6, h7⟩ := ih l (x :: R) (x :: c) hl (by simp) (by simp; omega) (by simp; omega)
      refine ⟨L', R', C', fun m hm n => ?_, by simp [h2], fun m => ?_, h4, ?_, by simp; omega, by simp at h7 ⊢; omega⟩
      · obtain ⟨m, rfl⟩ : ∃ j, m = j + 1 := ⟨m - 1, by omega⟩
        have a1 : [x].length + R.length ≤ 16777216 := by simp; omega
        have a2 : [x].length + c.length ≤ 16777216 := by simp; omega
        have e := h1 m (by omega) n
        rw [whileD_s]
        simp only [t1, b1, EI] at e ⊢
        simp [dNe_nil, ix_lastc, cut_lastc, cut_initc, dEq_enc, dAdd_T a1, dAdd_T a2, e]
      · rw [← h3 m]
        have := pw_shift c x m
        simp only [List.append_assoc]
        rw [← List.append_assoc [x], this]
        simp
      · obtain ⟨s, hs⟩ := h5
        exact ⟨s + 1, fun i => by rw [cyc_shift, hs]; congr 1; omega⟩
    · refine ⟨l ++ [x], R, c ++ [y], fun m hm n => ?_, rfl, fun _ => rfl, .inr (by simp [hxy]), ⟨0, fun _ => rfl⟩, Nat.le_refl _, by omega⟩
      obtain ⟨m, rfl⟩ : ∃ j, m = j + 1 := ⟨m - 1, by omega⟩
      rw [whileD_s]
      simp [t1, EI, dNe_nil, ix_lastc, dEq_enc, hxy]
theorem strip_ok (G L C : Word) (rate : Int) (hC : C ≠ []) (hc : C.length ≤ 1000) : ∀ (k : Nat) (R : Word) (more : Nat), R.length ≤ k → ∃ (R' : Word) (q : Nat), (∀ m, k < m → ∀ n, whileD t2 b2 m (EI G L R C rate more) n = some (.ok (.nx (EI G L R' C rate ((more + q : Nat) : Int))), n)) ∧
    (R = pw C q ++ R') ∧ R'.take C.length ≠ C := by
  intro k
  have l1 : 0 < C.length := List.length_pos_iff.mpr hC
  induction k with
  | zero =>
    intro R more hR
    have : R = [] := List.eq_nil_of_length_eq_zero (by omega)
    subst this
    refine ⟨[], 0, fun m hm n => ?_, rfl, by simp; exact fun e => hC e⟩
    obtain ⟨m, rfl⟩ : ∃ j, m = j + 1 := ⟨m - 1, by omega⟩
    rw [whileD_s]
    simp [t2, EI, dEq_T, Ne.symm hC]
  | succ k ih =>
    intro R more hR
    by_cases h : R.take C.length = C
    · obtain ⟨R', q, h1, h2, h3⟩ := ih (R.drop C.length) (more + 1) (by simp; omega)
      refine ⟨R', q + 1, fun m hm n => ?_, ?_, h3⟩
      · obtain ⟨m, rfl⟩ : ∃ j, m = j + 1 := ⟨m - 1, by omega⟩
        have e := h1 m (by omega) n
        rw [whileD_s]
        simp only [t2, b2, EI] at e ⊢
        rw [show ((more + (q + 1) : Nat) : Int) = ((more + 1 + q : Nat) : Int) by omega, ← e]
        simp [dEq_T, h]
      · rw [pw_succ, List.append_assoc, ← h2]
        have := List.take_append_drop C.length R
        rw [h] at this
        exact this.symm
    · refine ⟨R, 0, fun m hm n => ?_, rfl, h⟩
      obtain ⟨m, rfl⟩ : ∃ j, m = j + 1 := ⟨m - 1, by omega⟩
      rw [whileD_s]
      simp [t2, EI, dEq_T, h]
theorem ne_left_core : (("left" : Str) = "core") = False := eq_false (by decide +kernel)
theorem ne_left_right : (("left" : Str) = "right") = False := eq_false (by decide +kernel)
theorem ne_left_rate : (("left" : Str) = "rate") = False := eq_false (by decide +kernel)
theorem ne_left_more : (("left" : Str) = "more") = False := eq_false (by decide +kernel)
theorem ne_core_left : (("core" : Str) = "left") = False := eq_false (by decide +kernel)
theorem ne_core_right : (("core" : Str) = "right") = False := eq_false (by decide +kernel)
theorem ne_core_rate : (("core" : Str) = "rate") = False := eq_false (by decide +kernel)
theorem ne_core_more : (("core" : Str) = "more") = False := eq_false (by decide +kernel)
theorem ne_right_left : (("right" : Str) = "left") = False := eq_false (by decide +kernel)
theorem ne_right_core : (("right" : Str) = "core") = False := eq_false (by decide +kernel)
theorem ne_right_rate : (("right" : Str) = "rate") = False := eq_false (by decide +kernel)
theorem ne_right_more : (("right" : Str) = "more") = False := eq_false (by decide +kernel)
theorem ne_rate_left : (("rate" : Str) = "left") = False := eq_false (by decide +kernel)
theorem ne_rate_core : (("rate" : Str) = "core") = False := eq_false (by decide +kernel)
theorem ne_rate_right : (("rate" : Str) = "right") = False := eq_false (by decide +kernel)
theorem ne_rate_more : (("rate" : Str) = "more") = False := eq_false (by decide +kernel)
theorem ne_more_left : (("more" : Str) = "left") = False := eq_false (by decide +kernel)
theorem ne_more_core : (("more" : Str) = "core") = False := eq_false (by decide +kernel)
theorem ne_more_right : (("more" : Str) = "right") = False := eq_false (by decide +kernel)
theorem ne_more_rate : (("more" : Str) = "rate") = False := eq_false (by decide +kernel)
def encF (f : Fam Cell) : D := .obj 0 ["left", "core", "right", "rate", "more"] [encT f.L, encT f.C, encT f.R, .int f.rate, .int f.more]
/-- a new family is the least form -/
theorem init_ok (L G R : Word) (hG : G ≠ []) (hg : G.length ≤ 100) (hl : L.length ≤ 100) (hr : R.length ≤ 100) : ∃ f : Fam Cell, (∀ n, f_Family___init__ [encT L, encT G, encT R] n = some (.ok (encF f), n)) ∧ Good L G R f ∧ f.C.length ≤ G.length ∧ f.rate ≤ G.length ∧ f.R.length ≤ R.length + L.length ∧ f.more ≤ R.length + L.length := by
  have lg : 0 < G.length := List.length_pos_iff.mpr hG
  obtain ⟨p, p1, p2, p3, p4, p5⟩ := root_ok G hG (by omega)
  have hC0 : G.take p ≠ [] := fun e => by
    have := congrArg List.length e
    rw [List.length_take, List.length_nil] at this
    omega
  have lC0 : (G.take p).length = p := by simp; omega
  obtain ⟨rt, hrt⟩ : ∃ rt : Int, rt = ((G.length / p : Nat) : Int) := ⟨_, rfl⟩
  obtain ⟨L', R1, C', s1, s2, s3, s4, s5, s6, s7⟩ := shift_ok G rt 0 L.length L R (G.take p) rfl hC0 (by omega) (by omega)
  have lC : C'.length = p := by rw [s2, lC0]
  have hC' : C' ≠ [] := fun e => by rw [e] at lC; simp at lC; omega
  obtain ⟨R', q, r1, r2, r3⟩ := strip_ok G L' C' rt hC' (by omega) R1.length R1 0 (Nat.le_refl _)
  have hdvd : p ∣ G.length := Nat.dvd_of_mod_eq_zero p3.1
  have hq : q * p + R'.length = R1.length := by rw [r2, List.length_append, pw_length, lC]
  have hq2 : q ≤ q * p := Nat.le_mul_of_pos_right q (by omega)
  have hrate : G.length / p ≤ G.length := Nat.div_le_self _ _
  refine ⟨⟨L', C', R', G.length / p, q⟩, fun n => ?_, ⟨fun n => ?_, hC', ?_, fun k k1 k2 k3 k4 => ?_, s4, ?_, s6⟩, by show C'.length ≤ G.length; omega, hrate, by show R'.length ≤ R.length + L.length; omega, by show q ≤ R.length + L.length; omega⟩
  · have hd := dDiv_int (i := (G.length : Int)) (j := (p : Int)) (by omega) (by omega)
    have e1 := s1 1000000 (by omega) n
    have e2 := r1 1000000 (by omega) n
    simp only [t1, b1, t2, b2, EI] at e1 e2
    have hdv : (G.length : Int) / (p : Int) = rt := by rw [hrt]; simp
    have hmin : min p G.length = p := by omega
    simp only [Int.natCast_zero, Nat.zero_add] at e2
    rw [hdv] at hd
    simp [f_Family___init__, g_Family___init__, p5, hd, hmin, e1, e2, uFld, putKs, putVs, encF, ne_left_core, ne_left_right, ne_left_rate, ne_left_more, ne_core_left, ne_core_right, ne_core_rate, ne_core_more, ne_right_left, ne_right_core, ne_right_rate, ne_right_more, ne_rate_left, ne_rate_core, ne_rate_right, ne_rate_more, ne_more_left, ne_more_core, ne_more_right, ne_more_rate]
    rw [hrt]; simp
  · have h1 : G = pw (G.take p) (G.length / p) := by
      have hper := (rot_iff hG p2).mp p3.2
      apply List.ext_getElem?
      intro i
      rw [pw_get, lC0, Nat.div_mul_cancel hdvd]
      by_cases hi : i < G.length
      · rw [if_pos hi]
        have hm : i % p < p := Nat.mod_lt _ (by omega)
        have e1 : cyc (G.take p) i = G[i % p]? := by
          unfold cyc
          rw [lC0, List.getElem?_take, if_pos hm]
        have e2 := per_mul hper (i / p) (i % p)
        rw [Nat.mul_comm, Nat.mod_add_div] at e2
        rw [e1, ← cyc_lt hi, e2, cyc_lt (by omega)]
      · rw [if_neg hi, List.getElem?_eq_none (by omega)]
    show L ++ pw G n ++ R = L' ++ pw C' (G.length / p * n + q) ++ R'
    have hpp : ∀ (w : Word) (a b : Nat), pw w (a + b) = pw w a ++ pw w b := fun w a b => by
      induction a with
      | zero => simp [pw_zero]
      | succ a ih => rw [Nat.succ_add, pw_succ, pw_succ, ih, List.append_assoc]
    have hpm : ∀ (w : Word) (a b : Nat), pw (pw w a) b = pw w (a * b) := fun w a b => by
      induction b with
      | zero => simp [pw_zero]
      | succ b ih => rw [pw_succ, ih, Nat.mul_succ, Nat.add_comm, hpp]
    have h2 : pw G n = pw (G.take p) (G.length / p * n) := by rw [← hpm, ← h1]
    rw [h2, s3, r2, hpp]; simp only [List.append_assoc]
  · show G.length = G.length / p * C'.length
    rw [lC, Nat.div_mul_cancel hdvd]
  · have lk : k < p := by rw [← lC]; exact k2
    refine p4 k k1 lk ⟨k3, (rot_iff hG (by omega)).mpr fun i => ?_⟩
    obtain ⟨s, hs⟩ := s5
    have k4' : ∀ i, cyc C' (i + k) = cyc C' i := k4
    have hper := (rot_iff hG p2).mp p3.2
    have e : ∀ i, cyc G i = cyc (G.take p) i := fun i => by
      have e2 := per_mul hper (i / p) (i % p)
      rw [Nat.mul_comm, Nat.mod_add_div] at e2
      have hm : i % p < p := Nat.mod_lt _ (by omega)
      rw [e2, cyc_lt (by omega)]
      unfold cyc
      rw [lC0, List.getElem?_take, if_pos hm]
    rw [e, e, hs, hs, show i + k + s = i + s + k by omega, k4']
  · exact r3
end K11
end

section
set_option Elab.async false
set_option linter.all false
set_option autoImplicit false
set_option maxRecDepth 100000
namespace K11
open DL PySem L2 P_k11_whole_families
theorem pw_len_le (w : Word) (k a b : Nat) (h : w.length ≤ a) (h2 : k ≤ b) : (pw w k).length ≤ b * a := by
  rw [pw_length]; exact Nat.mul_le_mul h2 h
/-- small enough -/
structure Small (f : Fam Cell) : Prop where
  l : f.L.length ≤ 100
  c : f.C.length ≤ 30
  r : f.R.length ≤ 100
  ra : f.rate ≤ 30
  mo : f.more ≤ 100
  ne : f.C ≠ []
theorem bq_left_core : (("left" : Str) == "core") = false := by decide +kernel
theorem bq_left_right : (("left" : Str) == "right") = false := by decide +kernel
theorem bq_left_rate : (("left" : Str) == "rate") = false := by decide +kernel
theorem bq_left_more : (("left" : Str) == "more") = false := by decide +kernel
theorem bq_core_left : (("core" : Str) == "left") = false := by decide +kernel
theorem bq_core_right : (("core" : Str) == "right") = false := by decide +kernel
theorem bq_core_rate : (("core" : Str) == "rate") = false := by decide +kernel
theorem bq_core_more : (("core" : Str) == "more") = false := by decide +kernel
theorem bq_right_left : (("right" : Str) == "left") = false := by decide +kernel
theorem bq_right_core : (("right" : Str) == "core") = false := by decide +kernel
theorem bq_right_rate : (("right" : Str) == "rate") = false := by decide +kernel
theorem bq_right_more : (("right" : Str) == "more") = false := by decide +kernel
theorem bq_rate_left : (("rate" : Str) == "left") = false := by decide +kernel
theorem bq_rate_core : (("rate" : Str) == "core") = false := by decide +kernel
theorem bq_rate_right : (("rate" : Str) == "right") = false := by decide +kernel
theorem bq_rate_more : (("rate" : Str) == "more") = false := by decide +kernel
theorem bq_more_left : (("more" : Str) == "left") = false := by decide +kernel
theorem bq_more_core : (("more" : Str) == "core") = false := by decide +kernel
theorem bq_more_right : (("more" : Str) == "right") = false := by decide +kernel
theorem bq_more_rate : (("more" : Str) == "rate") = false := by decide +kernel
theorem bm_told_left : (("told" : Str) == "left") = false := by decide +kernel
theorem bm_told_core : (("told" : Str) == "core") = false := by decide +kernel
theorem bm_told_right : (("told" : Str) == "right") = false := by decide +kernel
theorem bm_told_rate : (("told" : Str) == "rate") = false := by decide +kernel
theorem bm_told_more : (("told" : Str) == "more") = false := by decide +kernel
theorem bm_rounds_left : (("rounds" : Str) == "left") = false := by decide +kernel
theorem bm_rounds_core : (("rounds" : Str) == "core") = false := by decide +kernel
theorem bm_rounds_right : (("rounds" : Str) == "right") = false := by decide +kernel
theorem bm_rounds_rate : (("rounds" : Str) == "rate") = false := by decide +kernel
theorem bm_rounds_more : (("rounds" : Str) == "more") = false := by decide +kernel
theorem bm_word_left : (("word" : Str) == "left") = false := by decide +kernel
theorem bm_word_core : (("word" : Str) == "core") = false := by decide +kernel
theorem bm_word_right : (("word" : Str) == "right") = false := by decide +kernel
theorem bm_word_rate : (("word" : Str) == "rate") = false := by decide +kernel
theorem bm_word_more : (("word" : Str) == "more") = false := by decide +kernel
theorem bm_length_left : (("length" : Str) == "left") = false := by decide +kernel
theorem bm_length_core : (("length" : Str) == "core") = false := by decide +kernel
theorem bm_length_right : (("length" : Str) == "right") = false := by decide +kernel
theorem bm_length_rate : (("length" : Str) == "rate") = false := by decide +kernel
theorem bm_length_more : (("length" : Str) == "more") = false := by decide +kernel
theorem bm_of_length_left : (("of_length" : Str) == "left") = false := by decide +kernel
theorem bm_of_length_core : (("of_length" : Str) == "core") = false := by decide +kernel
theorem bm_of_length_right : (("of_length" : Str) == "right") = false := by decide +kernel
theorem bm_of_length_rate : (("of_length" : Str) == "rate") = false := by decide +kernel
theorem bm_of_length_more : (("of_length" : Str) == "more") = false := by decide +kernel
@[simp] theorem fld_left (f : Fam Cell) : dFld 0 "left" (encF f) = some (encT f.L) := by simp [dFld, encF, List.lookup, bq_left_core, bq_left_right, bq_left_rate, bq_left_more, bq_core_left, bq_core_right, bq_core_rate, bq_core_more, bq_right_left, bq_right_core, bq_right_rate, bq_right_more, bq_rate_left, bq_rate_core, bq_rate_right, bq_rate_more, bq_more_left, bq_more_core, bq_more_right, bq_more_rate]
@[simp] theorem fld_core (f : Fam Cell) : dFld 0 "core" (encF f) = some (encT f.C) := by simp [dFld, encF, List.lookup, bq_left_core, bq_left_right, bq_left_rate, bq_left_more, bq_core_left, bq_core_right, bq_core_rate, bq_core_more, bq_right_left, bq_right_core, bq_right_rate, bq_right_more, bq_rate_left, bq_rate_core, bq_rate_right, bq_rate_more, bq_more_left, bq_more_core, bq_more_right, bq_more_rate]
@[simp] theorem fld_right (f : Fam Cell) : dFld 0 "right" (encF f) = some (encT f.R) := by simp [dFld, encF, List.lookup, bq_left_core, bq_left_right, bq_left_rate, bq_left_more, bq_core_left, bq_core_right, bq_core_rate, bq_core_more, bq_right_left, bq_right_core, bq_right_rate, bq_right_more, bq_rate_left, bq_rate_core, bq_rate_right, bq_rate_more, bq_more_left, bq_more_core, bq_more_right, bq_more_rate]
@[simp] theorem fld_rate (f : Fam Cell) : dFld 0 "rate" (encF f) = some (.int f.rate) := by simp [dFld, encF, List.lookup, bq_left_core, bq_left_right, bq_left_rate, bq_left_more, bq_core_left, bq_core_right, bq_core_rate, bq_core_more, bq_right_left, bq_right_core, bq_right_rate, bq_right_more, bq_rate_left, bq_rate_core, bq_rate_right, bq_rate_more, bq_more_left, bq_more_core, bq_more_right, bq_more_rate]
@[simp] theorem fld_more (f : Fam Cell) : dFld 0 "more" (encF f) = some (.int f.more) := by simp [dFld, encF, List.lookup, bq_left_core, bq_left_right, bq_left_rate, bq_left_more, bq_core_left, bq_core_right, bq_core_rate, bq_core_more, bq_right_left, bq_right_core, bq_right_rate, bq_right_more, bq_rate_left, bq_rate_core, bq_rate_right, bq_rate_more, bq_more_left, bq_more_core, bq_more_right, bq_more_rate]
@[simp] theorem obj_told (f : Fam Cell) : DL.isObj 0 "told" (encF f) = true := by simp [DL.isObj, encF, List.lookup, bm_told_left, bm_told_core, bm_told_right, bm_told_rate, bm_told_more]
@[simp] theorem obj_rounds (f : Fam Cell) : DL.isObj 0 "rounds" (encF f) = true := by simp [DL.isObj, encF, List.lookup, bm_rounds_left, bm_rounds_core, bm_rounds_right, bm_rounds_rate, bm_rounds_more]
@[simp] theorem obj_word (f : Fam Cell) : DL.isObj 0 "word" (encF f) = true := by simp [DL.isObj, encF, List.lookup, bm_word_left, bm_word_core, bm_word_right, bm_word_rate, bm_word_more]
@[simp] theorem obj_length (f : Fam Cell) : DL.isObj 0 "length" (encF f) = true := by simp [DL.isObj, encF, List.lookup, bm_length_left, bm_length_core, bm_length_right, bm_length_rate, bm_length_more]
@[simp] theorem obj_of_length (f : Fam Cell) : DL.isObj 0 "of_length" (encF f) = true := by simp [DL.isObj, encF, List.lookup, bm_of_length_left, bm_of_length_core, bm_of_length_right, bm_of_length_rate, bm_of_length_more]

theorem rounds_ok (f : Fam Cell) (hf : Small f) (k : Nat) (n : Int) : f_Family_rounds [encF f, .int k] n = some (.ok (.int ((f.rate * k + f.more : Nat) : Int)), n) := by
  have h1 : small64 (f.rate : Int) = true := small64_of (by omega) (by have := hf.ra; omega)
  have h2 := dMul_int (i := (f.rate : Int)) (j := (k : Int)) (.inl h1)
  simp [f_Family_rounds, g_Family_rounds, h2]
theorem w_len_le (f : Fam Cell) (hf : Small f) (k : Nat) (hk : k ≤ 12) : f.rate * k + f.more ≤ 1000 ∧ (f.w k).length ≤ 20000 := by
  have h1 : f.rate * k ≤ 30 * 12 := Nat.mul_le_mul hf.ra hk
  have h2 : f.rate * k + f.more ≤ 460 := by have := hf.mo; omega
  have h3 : (f.rate * k + f.more) * f.C.length ≤ 460 * 30 := Nat.mul_le_mul h2 hf.c
  refine ⟨by omega, ?_⟩
  rw [w_length]
  have := hf.l
  have := hf.r
  omega
theorem word_ok (f : Fam Cell) (hf : Small f) (k : Nat) (hk : k ≤ 12) (n : Int) : f_Family_word [encF f, .int k] n = some (.ok (encT (f.w k)), n) := by
  obtain ⟨h1, h2⟩ := w_len_le f hf k hk
  have h3 := rounds_ok f hf k n
  have h4 := dMul_T (xs := f.C) (k := f.rate * k + f.more) h1 (by have := hf.c; omega)
  have hw := w_length f k
  have hp := pw_length f.C (f.rate * k + f.more)
  have h5 : f.L.length + (pw f.C (f.rate * k + f.more)).length ≤ 16777216 := by rw [hp]; omega
  have h6 : (f.L ++ pw f.C (f.rate * k + f.more)).length + f.R.length ≤ 16777216 := by rw [List.length_append, hp]; omega
  have e : f.w k = f.L ++ pw f.C (f.rate * k + f.more) ++ f.R := rfl
  rw [e]
  obtain ⟨q, hq⟩ : ∃ q : Nat, q = f.rate * k + f.more := ⟨_, rfl⟩
  rw [← hq] at h3 h4 h5 h6 ⊢
  simp only [f_Family_word, g_Family_word]
  simp [h3, h4, dAdd_T h5, dAdd_T h6]
theorem length_ok (f : Fam Cell) (hf : Small f) (k : Nat) (hk : k ≤ 12) (n : Int) : f_Family_length [encF f, .int k] n = some (.ok (.int (f.w k).length), n) := by
  have h3 := rounds_ok f hf k n
  have hw := w_length f k
  obtain ⟨q, hq⟩ : ∃ q : Nat, q = f.rate * k + f.more := ⟨_, rfl⟩
  rw [← hq] at h3 hw
  have h1 : small64 (f.C.length : Int) = true := small64_of (by omega) (by have := hf.c; omega)
  have h2 := dMul_int (i := (f.C.length : Int)) (j := (q : Int)) (.inl h1)
  simp only [f_Family_length, g_Family_length]
  simp [h3, h2, hw]
  rw [Int.mul_comm]
theorem of_length_ok (f : Fam Cell) (hf : Small f) (k : Nat) (hk : k ≤ 12) (n : Int) : f_Family_of_length [encF f, .int (f.w k).length] n = some (.ok (encT (f.w k)), n) := by
  obtain ⟨h1, h2⟩ := w_len_le f hf k hk
  have hw := w_length f k
  have hp := pw_length f.C (f.rate * k + f.more)
  have e : f.w k = f.L ++ pw f.C (f.rate * k + f.more) ++ f.R := rfl
  obtain ⟨q, hq⟩ : ∃ q : Nat, q = f.rate * k + f.more := ⟨_, rfl⟩
  rw [← hq] at h1 hw hp e
  have lc : 0 < f.C.length := List.length_pos_iff.mpr hf.ne
  have lc0 : (0 : Int) < (f.C.length : Int) := by omega
  have lc1 : (f.C.length : Int) < 1073741824 := by have := hf.c; omega
  have r1 : ((f.w k).length : Int) - f.L.length - f.R.length = ((q * f.C.length : Nat) : Int) := by rw [hw]; omega
  have r2 : ¬ (((q * f.C.length : Nat) : Int) < 0) := by omega
  have r3 : ((q * f.C.length : Nat) : Int) % (f.C.length : Int) = 0 := by rw [Int.natCast_mul]; exact Int.mul_emod_left _ _
  have r4 : ((q * f.C.length : Nat) : Int) / (f.C.length : Int) = (q : Int) := by rw [Int.natCast_mul]; exact Int.mul_ediv_cancel _ (by omega)
  obtain ⟨z, hz⟩ : ∃ z : Int, z = ((q * f.C.length : Nat) : Int) := ⟨_, rfl⟩
  rw [← hz] at r1 r2 r3 r4
  have h4 := dMul_T (xs := f.C) (k := q) h1 (by have := hf.c; omega)
  have h5 : f.L.length + (pw f.C q).length ≤ 16777216 := by rw [hp]; omega
  have h6 : (f.L ++ pw f.C q).length + f.R.length ≤ 16777216 := by rw [List.length_append, hp]; omega
  obtain ⟨m, hm⟩ : ∃ m : Nat, m = (f.w k).length := ⟨_, rfl⟩
  rw [← hm] at r1 ⊢
  rw [e]
  simp only [f_Family_of_length, g_Family_of_length]
  simp [r1, r2, r3, r4, dMod_int lc0, dDiv_int lc0 lc1, h4, dAdd_T h5, dAdd_T h6]
theorem of_length_no (f : Fam Cell) (hf : Small f) (h : 1 < f.C.length) (n : Int) : f_Family_of_length [encF f, .int ((f.L.length : Int) + f.R.length + f.C.length + 1)] n = some (.ok .non, n) := by
  have lc0 : (0 : Int) < (f.C.length : Int) := by omega
  have r1 : ((f.L.length : Int) + f.R.length + f.C.length + 1) - f.L.length - f.R.length = (f.C.length : Int) + 1 := by omega
  have r2 : ¬ ((f.C.length : Int) + 1 < 0) := by omega
  have r3 : ¬ (((f.C.length : Int) + 1) % (f.C.length : Int) = 0) := by
    rw [Int.add_emod_left, Int.emod_eq_of_lt (by omega) (by omega)]
    omega
  obtain ⟨z, hz⟩ : ∃ z : Int, z = (f.C.length : Int) + 1 := ⟨_, rfl⟩
  obtain ⟨y, hy⟩ : ∃ y : Int, y = (f.L.length : Int) + f.R.length + f.C.length + 1 := ⟨_, rfl⟩
  rw [← hy] at r1 ⊢
  rw [← hz] at r1 r2 r3
  simp only [f_Family_of_length, g_Family_of_length]
  simp [r1, r2, r3, dMod_int lc0]
instance : PyE (List Cell) where
  enc := encT
  py := fun w => .tuple (w.map PyE.py)
  to := fun w => by
    unfold encT toPy
    rw [PyE.toAll]
  lay := fun w => by
    unfold PyData.canLay0
    exact PyE.layAll w
  dep := fun w => by
    unfold PyData.depth
    have : PyData.depthAll (w.map PyE.py) ≤ 1 := by
      induction w with
      | nil => simp [PyData.depthAll]
      | cons x r ih =>
        rw [List.map_cons]
        unfold PyData.depthAll
        have : (PyE.py x : PyData).depth ≤ 1 := by cases x <;> decide +kernel
        omega
    omega
  eqv := fun x y => by
    unfold PyData.eqv
    exact PyE.eqvAll x y
theorem told_ok (f : Fam Cell) (n : Int) : f_Family_told [encF f] n = some (.ok (encT (α := List Cell) [f.L, f.C, f.R]), n) := by
  simp only [f_Family_told, g_Family_told]
  simp [encT]
  exact ⟨rfl, rfl, rfl⟩
theorem same_ok (f g : Fam Cell) (n : Int) : f_same_family [encF f, encF g] n = some (.ok (.bl (decide (f = g))), n) := by
  have h1 := told_ok f n
  have h2 := told_ok g n
  have e1 : (D.tup [.int f.rate, .int f.more]) = encT (α := Int) [(f.rate : Int), (f.more : Int)] := rfl
  have e2 : (D.tup [.int g.rate, .int g.more]) = encT (α := Int) [(g.rate : Int), (g.more : Int)] := rfl
  have key : (decide (f = g)) = (decide ([f.L, f.C, f.R] = [g.L, g.C, g.R]) && decide ([(f.rate : Int), (f.more : Int)] = [(g.rate : Int), (g.more : Int)])) := by
    rw [← Bool.decide_and]
    apply decide_eq_decide.mpr
    constructor
    · intro e; subst e; exact ⟨rfl, rfl⟩
    · intro ⟨a, b⟩
      cases f; cases g
      simp at a b
      simp [a, b]
      omega
  rw [key]
  obtain ⟨b, hb⟩ : ∃ b, b = decide ([f.L, f.C, f.R] = [g.L, g.C, g.R]) := ⟨_, rfl⟩
  have h3 := dEq_T (α := List Cell) [f.L, f.C, f.R] [g.L, g.C, g.R]
  have h4 := dEq_T (α := Int) [(f.rate : Int), (f.more : Int)] [(g.rate : Int), (g.more : Int)]
  rw [← e1, ← e2] at h4
  rw [← hb] at h3 ⊢
  obtain ⟨c, hc⟩ : ∃ c, c = decide ([(f.rate : Int), (f.more : Int)] = [(g.rate : Int), (g.more : Int)]) := ⟨_, rfl⟩
  rw [← hc] at h4 ⊢
  obtain ⟨u, hu⟩ : ∃ u, u = encT (α := List Cell) [f.L, f.C, f.R] := ⟨_, rfl⟩
  obtain ⟨v, hv⟩ : ∃ v, v = encT (α := List Cell) [g.L, g.C, g.R] := ⟨_, rfl⟩
  rw [← hu] at h1 h3
  rw [← hv] at h2 h3
  simp only [f_same_family, g_same_family]
  cases b <;> simp [h1, h2, h3, h4]
theorem first_run (f g : Fam Cell) (hf : Small f) (hg : Small g) (k0 : Nat) (hk : k0 ≤ 12) (hne : f.w k0 ≠ g.w k0) (heq : ∀ j, j < k0 → f.w j = g.w j) (n : Int) : ∀ (d j m : Nat), j + d = k0 → d < m →
    whileD (tB (e2 dEq (eMeth 0 "word" (f_Family_word) (eVar 0) (eCons (eVar 2) eNil)) (eMeth 0 "word" (f_Family_word) (eVar 1) (eCons (eVar 2) eNil)))) (sAug 2 (dI (fun _ _ => true) fun a b => .int (a + b)) (eC (.int 1))) m [.val (encF f), .val (encF g), .val (.int j)] n = some (.ok (.nx [.val (encF f), .val (encF g), .val (.int k0)]), n)
  | 0, j, m, h, hm => by
    have : j = k0 := by omega
    subst this
    obtain ⟨m, rfl⟩ : ∃ i, m = i + 1 := ⟨m - 1, by omega⟩
    rw [whileD_s]
    simp [word_ok f hf j hk, word_ok g hg j hk, dEq_T, hne]
  | d + 1, j, m, h, hm => by
    obtain ⟨m, rfl⟩ : ∃ i, m = i + 1 := ⟨m - 1, by omega⟩
    have e := first_run f g hf hg k0 hk hne heq n d (j + 1) m (by omega) (by omega)
    have h2 : f.w j = g.w j := heq j (by omega)
    have e3 : dI (fun _ _ => true) (fun a b => D.int (a + b)) (.int j) (.int 1) = some (.int ((j + 1 : Nat) : Int)) := by simp [dI]
    rw [whileD_s]
    simp [word_ok f hf j (by omega), word_ok g hg j (by omega), dEq_T, h2, e3]
    simpa using e
theorem first_none (f : Fam Cell) (n : Int) : f_first_unlike [encF f, encF f] n = some (.ok .non, n) := by
  have h := same_ok f f n
  simp only [f_first_unlike, g_first_unlike]
  simp [h]
theorem first_some (f g : Fam Cell) (hf : Small f) (hg : Small g) (k0 : Nat) (hk : k0 ≤ 12) (hne : f.w k0 ≠ g.w k0) (heq : ∀ j, j < k0 → f.w j = g.w j) (n : Int) : f_first_unlike [encF f, encF g] n = some (.ok (.int k0), n) := by
  have h := same_ok f g n
  have hfg : ¬ f = g := fun e => hne (by rw [e])
  have r := first_run f g hf hg k0 hk hne heq n k0 0 1000000 (by omega) (by omega)
  simp only [f_first_unlike, g_first_unlike]
  simp [h, hfg]
  simp at r
  simp [r]
/-! ### the draws -/
theorem atI_in {α : Type} (xs : List α) (j : Int) (h0 : 0 ≤ j) (h1 : j < xs.length) : ∃ x, atI xs j = some x := by
  obtain ⟨k, rfl⟩ : ∃ k : Nat, j = (k : Int) := ⟨j.toNat, by omega⟩
  have : k < xs.length := by omega
  exact ⟨xs[k], atI_nat (by simp [this])⟩
theorem mul_r (i j : Int) (h : -1000000 ≤ j) (h2 : j ≤ 1000000) : dMul (.int i) (.int j) = some (.int (i * j)) := dMul_int (.inr (small64_of h h2))
theorem mul_l (i j : Int) (h : -1000000 ≤ i) (h2 : i ≤ 1000000) : dMul (.int i) (.int j) = some (.int (i * j)) := dMul_int (.inl (small64_of h h2))
theorem number_ok (W : Wd) (i n : Int) : ∃ v : Int, f__law_number W [.scr, .int i] n = some (.ok (.int v), n) := by
  have m1 := fun x => mul_r x 48271 (by omega) (by omega)
  have m2 := fun x => mul_r x 69621 (by omega) (by omega)
  have m3 := fun x => mul_r x 16807 (by omega) (by omega)
  have m4 := fun x => mul_l 977 x (by omega) (by omega)
  have m5 := fun x => mul_l 31 x (by omega) (by omega)
  have d1 := fun x => dMod_int (i := x) (j := 2147483647) (by omega)
  have d2 := fun x => dMod_int (i := x) (j := 2147483629) (by omega)
  have d3 := fun x => dMod_int (i := x) (j := 2147483587) (by omega)
  have nil : dScrNil W .scr (.lst []) = some (.bl W.ns.isEmpty) := rfl
  have len : dLenS W [.scr] = some (.int W.ns.length) := rfl
  have int : ∀ x, dInt [.int x] = some (.int x) := fun _ => rfl
  cases he : W.ns.isEmpty with
  | true =>
    rw [he] at nil
    simp only [f__law_number, g__law_number]
    simp [nil, m1, d1, int]
  | false =>
    rw [he] at nil
    have hl : 0 < W.ns.length := by
      cases hn : W.ns with
      | nil => rw [hn] at he; cases he
      | cons a b => simp
    have hl' : (0 : Int) < (W.ns.length : Int) := by omega
    have d0 := fun x => dMod_int (i := x) (j := (W.ns.length : Int)) hl'
    obtain ⟨x, hx⟩ := atI_in W.ns (i % (W.ns.length : Int)) (Int.emod_nonneg _ (by omega)) (Int.emod_lt_of_pos _ hl')
    have ix : dIxS W .scr (.int (i % (W.ns.length : Int))) = some (.int x) := by
      show (atI W.ns _).map D.int = _
      rw [hx]; rfl
    obtain ⟨p60, e60⟩ : ∃ p60 : Int, dPow (.int 10) (.int 60) = some (.int p60) := ⟨_, rfl⟩
    have e18 : dPow (.int 10) (.int 18) = some (.int 1000000000000000000) := rfl
    have d18 := fun x => dMod_int (i := x) (j := 1000000000000000000) (by omega)
    have ab : dAbs [.int x] = some (.int (if x < 0 then -x else x)) := rfl
    obtain ⟨y, hy⟩ : ∃ y, y = (if x < 0 then -x else x) := ⟨_, rfl⟩
    rw [← hy] at ab
    simp only [f__law_number, g__law_number]
    by_cases hb : p60 ≤ y
    · simp [nil, len, d0, ix, ab, e60, hb, e18, d18, m4, m1, m5, d1, m2, d2, m3, d3, int]
    · simp [nil, len, d0, ix, ab, e60, hb, m4, m1, m5, d1, m2, d2, m3, d3, int]
theorem take_ok (W : Wd) (m n : Int) (h : 0 < m) : ∃ v : Int, 0 ≤ v ∧ v < m ∧ f__law_take W [.drw, .int m] n = some (.ok (.int v), n + 1) := by
  obtain ⟨v, hv⟩ := number_ok W (n + 1) (n + 1)
  refine ⟨v % m, Int.emod_nonneg _ (by omega), Int.emod_lt_of_pos _ h, ?_⟩
  have int : ∀ x, dInt [.int x] = some (.int x) := fun _ => rfl
  have s1 : ∀ n, sDrw (eVar 0) [.val .drw, .val (.int m)] n = some (.ok (.nx [.val .drw, .val (.int m)]), n + 1) := fun n => rfl
  have s2 : ∀ n, eDrw0 (eVar 0) [.val .drw, .val (.int m)] n = some (.ok .scr, n) := fun n => rfl
  have s3 : ∀ n, eDrw1 (eVar 0) [.val .drw, .val (.int m)] n = some (.ok (.int n), n) := fun n => rfl
  simp only [f__law_take, g__law_take]
  simp [s1, s2, s3, int, hv, dMod_int h]
/-- k, p or k -/
def abc (v : Int) : Cell := if v = 1 then .p else .k
theorem pick_ok (W : Wd) (n : Int) : ∃ c : Cell, f__law_pick W [.drw, .lst [.str "k", .str "p", .str "k"]] n = some (.ok (.str c.s), n + 1) := by
  obtain ⟨v, h0, h1, hv⟩ := take_ok W 3 n (by omega)
  have h : v = 0 ∨ v = 1 ∨ v = 2 := by omega
  have i0 : dIx (.lst [.str "k", .str "p", .str "k"]) (.int 0) = some (.str "k") := rfl
  have i1 : dIx (.lst [.str "k", .str "p", .str "k"]) (.int 1) = some (.str "p") := rfl
  have i2 : dIx (.lst [.str "k", .str "p", .str "k"]) (.int 2) = some (.str "k") := rfl
  simp only [f__law_pick, g__law_pick]
  rcases h with rfl | rfl | rfl
  · exact ⟨.k, by simp [hv, i0, Cell.s]⟩
  · exact ⟨.p, by simp [hv, i1, Cell.s]⟩
  · exact ⟨.k, by simp [hv, i2, Cell.s]⟩
theorem small_ok (W : Wd) (m : Nat) (hm : m ≤ 100) (n : Int) : ∃ w : Word, ∃ n', w.length ≤ m ∧ f__law_small_word W [.drw, .int m] n = some (.ok (encT w), n') := by
  obtain ⟨v, h0, h1, hv⟩ := take_ok W ((m : Int) + 1) n (by omega)
  have r := dRng1_ok (j := v) (by omega) (by omega)
  have tu : ∀ ds, dTupOf [.lst ds] = some (.tup ds) := fun _ => rfl
  obtain ⟨w, n', h2, h3⟩ := compD_ex (α := Cell) (compB [2] (gV 2) tYesD (eTup (eCons (eCall (f__law_pick W) (eCons (eVar 0) (eCons (eLst (eCons (eC (.str "k")) (eCons (eC (.str "p")) (eCons (eC (.str "k")) eNil)))) eNil))) (eCons (eC (.str "a")) eNil))) [.val .drw, .val (.int m), .no]) (rngD 0 v) (n + 1) fun d hd n => by
    obtain ⟨c, hc⟩ := pick_ok W n
    refine ⟨c, n + 1, ?_⟩
    simp [hc]
    rfl
  have hl : w.length ≤ m := by rw [h3, rngD_length]; omega
  refine ⟨w, n', hl, ?_⟩
  simp only [f__law_small_word, g__law_small_word]
  have hw : (w.map PyE.enc).length ≤ 16777216 := by simp; omega
  simp [hv, r, h2, tu, mkLst_of hw, encT]
end K11
end

section
set_option Elab.async false
set_option linter.all false
set_option autoImplicit false
set_option maxRecDepth 100000
namespace K11
open DL PySem L2 P_k11_whole_families
theorem cut_from1 (xs : Word) : dCut (encT xs) (some 1) none = some (encT (xs.drop 1)) := cut_from xs 1
theorem cut_to1 (xs : Word) : dCut (encT xs) none (some 1) = some (encT (xs.take 1)) := cut_to xs 1
theorem power_no (C : Word) (hc : C.length ≤ 30) (hC : C ≠ []) (prim : ∀ k, 1 ≤ k → k < C.length → C.length % k = 0 → ¬ ∀ i, cyc C (i + k) = cyc C i) (n : Int) : f__law_is_power [encT C] n = some (.ok (.bl false), n) := by
  have hl : 0 < C.length := List.length_pos_iff.mpr hC
  have r := dRng2_ok (i := 1) (j := (C.length : Int)) (by omega) (by omega) (by omega) (by omega)
  obtain ⟨s, e⟩ := forD_all 1 (sIf (tAndD (tB (e2 dEq (e2 dMod (eB dLen (eCons (eVar 0) eNil)) (eVar 1)) (eC (.int 0)))) (tB (e2 dEq (e2 dMul (eCut (eVar 0) oNone (oSome (eVar 1))) (e2 dDiv (eB dLen (eCons (eVar 0) eNil)) (eVar 1))) (eVar 0)))) (sRet (eC (.bl true))) sNx) [.val (encT C), .no] n (rngD 1 (C.length : Int)) .no fun d hd => by
    obtain ⟨i, rfl, h1, h2⟩ := mem_rngD hd
    obtain ⟨m, rfl⟩ : ∃ m : Nat, i = (m : Int) := ⟨i.toNat, by omega⟩
    have hm : (0 : Int) < (m : Int) := by omega
    by_cases q1 : (C.length : Int) % (m : Int) = 0
    · have q1' : C.length % m = 0 := by omega
      have hdiv : (C.length : Int) / (m : Int) = ((C.length / m : Nat) : Int) := by simp
      have hle : C.length / m ≤ C.length := Nat.div_le_self _ _
      have hmul := dMul_T (xs := C.take m) (k := C.length / m) (by omega) (by simp; omega)
      have hd := dDiv_int (i := (C.length : Int)) (j := (m : Int)) hm (by omega)
      rw [hdiv] at hd
      have q2 : ¬ pw (C.take m) (C.length / m) = C := fun e => by
        refine prim m (by omega) (by omega) q1' fun i => ?_
        have lm : (C.take m).length = m := by simp; omega
        have hdm : C.length / m * m = C.length := Nat.div_mul_cancel (Nat.dvd_of_mod_eq_zero q1')
        have key : ∀ j, cyc C j = cyc (C.take m) j := fun j => by
          have hj : j % C.length < C.length := Nat.mod_lt _ hl
          have : C[j % C.length]? = (pw (C.take m) (C.length / m))[j % C.length]? := by rw [e]
          rw [pw_get, lm, hdm, if_pos hj] at this
          unfold cyc at this ⊢
          rw [this, lm, Nat.mod_mod_of_dvd _ (Nat.dvd_of_mod_eq_zero q1')]
        rw [key, key]
        have := cyc_per (C.take m) i
        rw [lm] at this
        exact this
      obtain ⟨z, hz⟩ : ∃ z : Int, z = ((C.length / m : Nat) : Int) := ⟨_, rfl⟩
      rw [← hz] at hd hmul
      simp [dMod_int hm, q1, hd, hmul, dEq_T, q2]
    · simp [dMod_int hm, q1]
  simp at e
  simp only [f__law_is_power, g__law_is_power]
  simp [r, e]
theorem other_ok (W : Wd) (L G R : Word) (hl : L.length ≤ 100) (hg : G.length ≤ 100) (hr : R.length ≤ 100) (hG : G ≠ []) (n : Int) : ∃ L' G' R' : Word, ∃ n', f__law_other W [.drw, encT L, encT G, encT R] n = some (.ok (.tup [encT L', encT G', encT R']), n') ∧ G' ≠ [] ∧ L'.length ≤ L.length + G.length ∧ G'.length ≤ 2 * G.length ∧ R'.length ≤ R.length + G.length := by
  obtain ⟨v, h0, h1, hv⟩ := take_ok W 5 n (by omega)
  have lg : 0 < G.length := List.length_pos_iff.mpr hG
  have a0 : ∀ (a b : Word), a.length ≤ 200 → b.length ≤ 200 → dAdd (encT a) (encT b) = some (encT (a ++ b)) := fun a b p q => dAdd_T (by omega)
  by_cases v0 : v = 0
  · subst v0
    have t1 : (G.take 1).length ≤ 1 := by rw [List.length_take]; omega
    have t2 : (G.drop 1).length = G.length - 1 := List.length_drop ..
    have e1 := a0 L (G.take 1) (by omega) (by omega)
    have e2 := a0 (G.drop 1) (G.take 1) (by omega) (by omega)
    have t3 : (G.take 1).length = 1 := by rw [List.length_take]; omega
    have c1 := cut_from1 G
    have c2 := cut_to1 G
    have c3 := cut_from1 R
    have c4 := cut_to1 R
    have t5 : (R.drop 1).length = R.length - 1 := List.length_drop ..
    generalize G.drop 1 = gd at *
    generalize G.take 1 = gt at *
    generalize R.drop 1 = rd at *
    generalize R.take 1 = rt at *
    by_cases q : rt = gt
    · refine ⟨L ++ gt, gd ++ gt, rd, n + 1, ?_, ?_, ?_, ?_, ?_⟩
      · simp only [f__law_other, g__law_other]
        simp [hv, c1, c2, c3, c4, e1, e2, dEq_T, q]
      · intro e
        have := congrArg List.length e
        rw [List.length_append, List.length_nil] at this
        omega
      · rw [List.length_append]; omega
      · rw [List.length_append]; omega
      · omega
    · refine ⟨L ++ gt, gd ++ gt, R, n + 1, ?_, ?_, ?_, ?_, ?_⟩
      · simp only [f__law_other, g__law_other]
        simp [hv, c1, c2, c3, c4, e1, e2, dEq_T, q]
      · intro e
        have := congrArg List.length e
        rw [List.length_append, List.length_nil] at this
        omega
      · rw [List.length_append]; omega
      · rw [List.length_append]; omega
      · omega
  · obtain ⟨g, y, rfl⟩ : ∃ g y, G = g ++ [y] := ⟨G.dropLast, G.getLast hG, (List.dropLast_concat_getLast _).symm⟩
    have l1 : (g ++ [y]).length ≤ 200 := by omega
    have last : (0 ≤ v ∧ v ≠ 0 ∧ v ≠ 2 ∧ v ≠ 3 ∧ ¬ (v = 1 ∧ L ≠ [] ∧ L.getLast? = some y)) → f__law_other W [.drw, encT L, encT (g ++ [y]), encT R] n = some (.ok (.tup [encT L, encT ((g ++ [y]) ++ (g ++ [y])), encT R]), n + 1) := by
      intro ⟨_, p0, p2, p3, p1⟩
      simp only [f__law_other, g__law_other]
      by_cases q : v = 1
      · subst q
        by_cases hL : L = []
        · simp [hv, dNe_nil, hL, a0 _ _ l1 l1]
        · obtain ⟨l, x, rfl⟩ : ∃ l x, L = l ++ [x] := ⟨L.dropLast, L.getLast hL, (List.dropLast_concat_getLast _).symm⟩
          have hxy : ¬ x = y := fun e => p1 ⟨rfl, hL, by simp [e]⟩
          simp [hv, dNe_nil, ix_lastc, dEq_enc, hxy, a0 _ _ l1 l1]
      · simp [hv, p0, q, p2, p3, a0 _ _ l1 l1]
    by_cases v2 : v = 2
    · subst v2
      refine ⟨L ++ (g ++ [y]), g ++ [y], R, n + 1, ?_, by simp, by simp, by omega, by omega⟩
      simp only [f__law_other, g__law_other]
      simp [hv, a0 L (g ++ [y]) (by omega) l1]
    · by_cases v3 : v = 3
      · subst v3
        refine ⟨L, g ++ [y], (g ++ [y]) ++ R, n + 1, ?_, by simp, by omega, by omega, by simp; omega⟩
        simp only [f__law_other, g__law_other]
        simp [hv, a0 (g ++ [y]) R l1 (by omega)]
      · by_cases v1 : v = 1 ∧ L ≠ [] ∧ L.getLast? = some y
        · obtain ⟨rfl, hL, hy⟩ := v1
          obtain ⟨l, rfl⟩ := List.getLast?_eq_some_iff.mp hy
          simp only [List.length_append, List.length_singleton] at hl hg
          refine ⟨l, [y] ++ g, [y] ++ R, n + 1, ?_, by simp, by rw [List.length_append]; omega, by rw [List.length_append, List.length_append, List.length_singleton]; omega, by rw [List.length_append, List.length_append, List.length_singleton]; omega⟩
          simp only [f__law_other, g__law_other]
          simp [hv, dNe_nil, ix_lastc, dEq_enc, cut_lastc, cut_initc, a0 [y] g (by simp) (by omega), a0 [y] R (by simp) (by omega)]
        · exact ⟨L, (g ++ [y]) ++ (g ++ [y]), R, n + 1, last ⟨h0, v0, v2, v3, v1⟩, by simp, by omega, by simp; omega, by omega⟩
end K11
end

section
set_option Elab.async false
set_option linter.all false
set_option autoImplicit false
set_option maxRecDepth 100000
namespace K11
open DL PySem L2 P_k11_whole_families
def body6 : SX := (sSeq (sAsg (gV 8) (e2 dAdd (e2 dAdd (eVar 3) (e2 dMul (eVar 5) (eVar 7))) (eVar 4)))
  (sSeq (sIf (tOrD (tB (e2 dNe (eMeth 0 "word" (f_Family_word) (eVar 6) (eCons (eVar 7) eNil)) (eVar 8))) (tB (e2 dNe (e2 dAdd (e2 dAdd (e1 (dFld 0 "left") (eVar 6)) (e2 dMul (e1 (dFld 0 "core") (eVar 6)) (e2 dAdd (e2 dMul (e1 (dFld 0 "rate") (eVar 6)) (eVar 7)) (e1 (dFld 0 "more") (eVar 6))))) (e1 (dFld 0 "right") (eVar 6))) (eVar 8)))) (sRet (eC (.bl false))) sNx)
  (sIf (tOrD (tB (e2 dNe (eMeth 0 "length" (f_Family_length) (eVar 6) (eCons (eVar 7) eNil)) (eB dLen (eCons (eVar 8) eNil)))) (tB (e2 dNe (eMeth 0 "of_length" (f_Family_of_length) (eVar 6) (eCons (eB dLen (eCons (eVar 8) eNil)) eNil)) (eVar 8)))) (sRet (eC (.bl false))) sNx)))
def bodyT (W : Wd) : SX := (sSeq (sAsg (gT (gsC (gV 3) (gsC (gV 4) gsN))) (eTup (eCons (eCall (f__law_small_word W) (eCons (eVar 1) (eCons (eC (.int 5)) eNil))) (eCons (eCall (f__law_small_word W) (eCons (eVar 1) (eCons (eC (.int 5)) eNil))) eNil))))
  (sSeq (sAsg (gV 5) (e2 dAdd (eCall (f__law_small_word W) (eCons (eVar 1) (eCons (eC (.int 3)) eNil))) (eTup (eCons (eTup (eCons (eC (.str "p")) (eCons (eC (.str "a")) eNil))) eNil))))
  (sSeq (sIf (tB (e2 dEq (eCall (f__law_take W) (eCons (eVar 1) (eCons (eC (.int 3)) eNil))) (eC (.int 0)))) (sAsg (gV 5) (e2 dAdd (eVar 5) (eVar 5))) sNx)
  (sSeq (sAsg (gV 6) (eMake 0 (f_Family___init__) (eCons (eVar 3) (eCons (eVar 5) (eCons (eVar 4) eNil)))))
  (sSeq (sFor (gV 7) (iRng1D (eCons (eC (.int 6)) eNil)) body6)
  (sSeq (sIf (tOrD (tTru (eCall (f__law_is_power) (eCons (e1 (dFld 0 "core") (eVar 6)) eNil))) (tOrD (tB (e2 dEq (eCut (e1 (dFld 0 "left") (eVar 6)) (oSome (e1 dNeg (eC (.int 1)))) oNone) (eCut (e1 (dFld 0 "core") (eVar 6)) (oSome (e1 dNeg (eC (.int 1)))) oNone))) (tB (e2 dEq (eCut (e1 (dFld 0 "right") (eVar 6)) oNone (oSome (eB dLen (eCons (e1 (dFld 0 "core") (eVar 6)) eNil)))) (e1 (dFld 0 "core") (eVar 6)))))) (sRet (eC (.bl false))) sNx)
  (sSeq (sIf (tAndD (tB (e1 (fun d => some (.bl (!isNon d))) (eMeth 0 "of_length" (f_Family_of_length) (eVar 6) (eCons (e2 dAdd (e2 dAdd (e2 dAdd (eB dLen (eCons (e1 (dFld 0 "left") (eVar 6)) eNil)) (eB dLen (eCons (e1 (dFld 0 "right") (eVar 6)) eNil))) (eB dLen (eCons (e1 (dFld 0 "core") (eVar 6)) eNil))) (eC (.int 1))) eNil)))) (tB (e2 dGt (eB dLen (eCons (e1 (dFld 0 "core") (eVar 6)) eNil)) (eC (.int 1))))) (sRet (eC (.bl false))) sNx)
  (sSeq (sAsg (gV 9) (eIf (tB (e2 dGt (eCall (f__law_take W) (eCons (eVar 1) (eCons (eC (.int 3)) eNil))) (eC (.int 0)))) (eCall (f__law_other W) (eCons (eVar 1) (eCons (eVar 3) (eCons (eVar 5) (eCons (eVar 4) eNil))))) (eTup (eCons (eCall (f__law_small_word W) (eCons (eVar 1) (eCons (eC (.int 3)) eNil))) (eCons (eVar 5) (eCons (eVar 4) eNil))))))
  (sSeq (sAsg (gV 10) (eMake 0 (f_Family___init__) (eCons (e2 dIx (eVar 9) (eC (.int 0))) (eCons (e2 dIx (eVar 9) (eC (.int 1))) (eCons (e2 dIx (eVar 9) (eC (.int 2))) eNil)))))
  (sSeq (sAsg (gV 11) (eComp [7] (gV 7) (iRng1D (eCons (eC (.int 13)) eNil)) (tB (e2 dNe (e2 dAdd (e2 dAdd (e2 dIx (eVar 9) (eC (.int 0))) (e2 dMul (e2 dIx (eVar 9) (eC (.int 1))) (eVar 7))) (e2 dIx (eVar 9) (eC (.int 2)))) (e2 dAdd (e2 dAdd (eVar 3) (e2 dMul (eVar 5) (eVar 7))) (eVar 4)))) (eVar 7)))
  (sSeq (sIf (tOrD (tB (e2 dNe (eCall (f_same_family) (eCons (eVar 6) (eCons (eVar 10) eNil))) (e2 dEq (eVar 11) (eLst eNil)))) (tB (e2 dNe (eCall (f_first_unlike) (eCons (eVar 6) (eCons (eVar 10) eNil))) (eIf (tB (e2 dNe (eVar 11) (eLst eNil))) (e2 dIx (eVar 11) (eC (.int 0))) (eC .non))))) (sRet (eC (.bl false))) sNx)
  (sSeq (sAsg (gV 12) (eCall (f_family_of) (eCons (eTup (eCons (eVar 3) (eCons (eVar 5) (eCons (eVar 4) eNil)))) eNil)))
  (sIf (tB (e2 dNe (eTup (eCons (e1 (dFld 0 "left") (eVar 12)) (eCons (e1 (dFld 0 "core") (eVar 12)) (eCons (e1 (dFld 0 "right") (eVar 12)) (eCons (e1 (dFld 0 "rate") (eVar 12)) (eCons (e1 (dFld 0 "more") (eVar 12)) eNil)))))) (eTup (eCons (e1 (dFld 0 "left") (eVar 6)) (eCons (e1 (dFld 0 "core") (eVar 6)) (eCons (e1 (dFld 0 "right") (eVar 6)) (eCons (e1 (dFld 0 "rate") (eVar 6)) (eCons (e1 (dFld 0 "more") (eVar 6)) eNil)))))))) (sRet (eC (.bl false))) sNx)))))))))))))

theorem seq_go {g h : SX} {ρ ρ1 : DL.Env} {n n1 : Int} {r : Option (Except Xc Out × Int)} (a : g ρ n = some (.ok (.nx ρ1), n1)) (b : h ρ1 n1 = r) : sSeq g h ρ n = r := by
  rw [sSeq_ap, bind_ap, a]; exact b
def hs (s : Sl) : Sl := (hide [s]).headD .no
theorem hide_c (s : Sl) (r : DL.Env) : hide (s :: r) = hs s :: hide r := by cases s <;> rfl
@[simp] theorem hs_val (d : D) : hs (.val d) = .val d := rfl
@[simp] theorem mk_F (f : Fam Cell) : makeK 0 (encF f) = M.pure (encF f) := makeK_obj _ _ _
@[simp] theorem ix3_0 (a b c : D) : dIx (.tup [a, b, c]) (.int 0) = some a := rfl
@[simp] theorem ix3_1 (a b c : D) : dIx (.tup [a, b, c]) (.int 1) = some b := rfl
@[simp] theorem ix3_2 (a b c : D) : dIx (.tup [a, b, c]) (.int 2) = some c := rfl
theorem filt (p : Nat → Bool) : ∀ n : Nat, ((List.range n).filter p = [] ∧ ∀ j, j < n → p j = false) ∨ ∃ k r, (List.range n).filter p = k :: r ∧ k < n ∧ p k = true ∧ ∀ j, j < k → p j = false
  | 0 => .inl ⟨rfl, fun j h => absurd h (Nat.not_lt_zero _)⟩
  | n + 1 => by
    rw [List.range_succ, List.filter_append]
    rcases filt p n with ⟨e, h⟩ | ⟨k, r, e, h1, h2, h3⟩
    · rw [e]
      cases q : p n with
      | false =>
        refine .inl ⟨by simp [q], fun j hj => ?_⟩
        rcases Nat.lt_succ_iff_lt_or_eq.mp hj with h' | h'
        · exact h j h'
        · rw [h']; exact q
      | true => exact .inr ⟨n, [], by simp [q], by omega, q, h⟩
    · rw [e]
      exact .inr ⟨k, r ++ [n].filter p, rfl, by omega, h2, h3⟩
theorem step6 (L G R : Word) (f : Fam Cell) (hf : Small f) (gd : Good L G R f) (hl : L.length ≤ 100) (hg : G.length ≤ 100) (hr : R.length ≤ 100) (m : Nat) (hm : m ≤ 12) (s2 s8 s9 s10 s11 s12 : Sl) (n : Int) : body6 [.val .scr, .val .drw, s2, .val (encT L), .val (encT R), .val (encT G), .val (encF f), .val (.int m), s8, s9, s10, s11, s12] n = some (.ok (.nx [.val .scr, .val .drw, s2, .val (encT L), .val (encT R), .val (encT G), .val (encF f), .val (.int m), .val (encT (f.w m)), s9, s10, s11, s12]), n) := by
  obtain ⟨h1, h2⟩ := w_len_le f hf m hm
  have wo := word_ok f hf m hm n
  have le := length_ok f hf m hm n
  have ol := of_length_ok f hf m hm n
  have a1 := dMul_T (xs := G) (k := m) (by omega) (by omega)
  have lp : (pw G m).length = m * G.length := pw_length G m
  have lp' : m * G.length ≤ 12 * 100 := Nat.mul_le_mul hm hg
  have a2 := dAdd_T (xs := L) (ys := pw G m) (by omega)
  have a3 := dAdd_T (xs := L ++ pw G m) (ys := R) (by rw [List.length_append]; omega)
  rw [gd.word m] at a3
  have b0 := dMul_int (i := (f.rate : Int)) (j := (m : Int)) (.inl (small64_of (by omega) (by have := hf.ra; omega)))
  have b1 := dMul_T (xs := f.C) (k := f.rate * m + f.more) h1 (by have := hf.c; omega)
  have hp := pw_length f.C (f.rate * m + f.more)
  have hw := w_length f m
  have b2 := dAdd_T (xs := f.L) (ys := pw f.C (f.rate * m + f.more)) (by rw [hp]; omega)
  have b3 := dAdd_T (xs := f.L ++ pw f.C (f.rate * m + f.more)) (ys := f.R) (by rw [List.length_append, hp]; omega)
  have e : f.L ++ pw f.C (f.rate * m + f.more) ++ f.R = f.w m := rfl
  rw [e] at b3
  have c : (f.rate : Int) * (m : Int) + (f.more : Int) = ((f.rate * m + f.more : Nat) : Int) := by simp
  generalize f.w m = wm at *
  generalize hq : f.rate * m + f.more = q at *
  generalize pw f.C q = pc at *
  generalize pw G m = pg at *
  unfold body6
  have nn : ∀ x : Word, dNe (encT x) (encT x) = some (.bl false) := fun x => by rw [dNe_T]; simp
  refine seq_go (ρ1 := [.val .scr, .val .drw, s2, .val (encT L), .val (encT R), .val (encT G), .val (encF f), .val (.int m), .val (encT wm), s9, s10, s11, s12]) (n1 := n) ?_ ?_
  · simp [a1, a2, a3]
  refine seq_go (ρ1 := [.val .scr, .val .drw, s2, .val (encT L), .val (encT R), .val (encT G), .val (encF f), .val (.int m), .val (encT wm), s9, s10, s11, s12]) (n1 := n) ?_ ?_
  · simp [wo, nn, b0, c, b1, b2, b3]
  · simp [le, ol, nn]
end K11
end

section
set_option Elab.async false
set_option linter.all false
set_option autoImplicit false
set_option maxRecDepth 100000
namespace K11
open DL PySem L2 P_k11_whole_families

theorem unlike_ok (T : D) (L G R : Word) (f f2 : Fam Cell) (L' G' R' : Word) (hT : T = .tup [encT L', encT G', encT R']) (gd : Good L G R f) (gd2 : Good L' G' R' f2)
    (hl : L.length ≤ 200) (hg : G.length ≤ 200) (hr : R.length ≤ 200) (hl' : L'.length ≤ 200) (hg' : G'.length ≤ 200) (hr' : R'.length ≤ 200) (s2 s6 s7 s8 s10 s11 s12 : Sl) (n : Int) :
    (eComp [7] (gV 7) (iRng1D (eCons (eC (.int 13)) eNil)) (tB (e2 dNe (e2 dAdd (e2 dAdd (e2 dIx (eVar 9) (eC (.int 0))) (e2 dMul (e2 dIx (eVar 9) (eC (.int 1))) (eVar 7))) (e2 dIx (eVar 9) (eC (.int 2)))) (e2 dAdd (e2 dAdd (eVar 3) (e2 dMul (eVar 5) (eVar 7))) (eVar 4)))) (eVar 7)) [.val .scr, .val .drw, s2, .val (encT L), .val (encT R), .val (encT G), s6, s7, s8, .val T, s10, s11, s12] n = some (.ok (.lst (((List.range 13).filter fun k => !decide (f2.w k = f.w k)).map fun k : Nat => .int (k : Int))), n) := by
  subst hT
  have r := dRng1_ok (j := 13) (by omega) (by omega)
  have cm := compD_map (compB [7] (gV 7) (tB (e2 dNe (e2 dAdd (e2 dAdd (e2 dIx (eVar 9) (eC (.int 0))) (e2 dMul (e2 dIx (eVar 9) (eC (.int 1))) (eVar 7))) (e2 dIx (eVar 9) (eC (.int 2)))) (e2 dAdd (e2 dAdd (eVar 3) (e2 dMul (eVar 5) (eVar 7))) (eVar 4)))) (eVar 7) [.val .scr, .val .drw, s2, .val (encT L), .val (encT R), .val (encT G), s6, s7, s8, .val (.tup [encT L', encT G', encT R']), s10, s11, s12]) (fun d => if (match d with | .int i => !decide (f2.w i.toNat = f.w i.toNat) | _ => false) then some d else none) n (rngD 0 13) fun d hd => by
    obtain ⟨i, rfl, h1, h2⟩ := mem_rngD hd
    obtain ⟨m, rfl⟩ : ∃ m : Nat, i = (m : Int) := ⟨i.toNat, by omega⟩
    have hm : m ≤ 12 := by omega
    have a1 := dMul_T (xs := G) (k := m) (by omega) (by omega)
    have lp : (pw G m).length = m * G.length := pw_length G m
    have lp' : m * G.length ≤ 12 * 200 := Nat.mul_le_mul hm hg
    have a2 := dAdd_T (xs := L) (ys := pw G m) (by omega)
    have a3 := dAdd_T (xs := L ++ pw G m) (ys := R) (by rw [List.length_append]; omega)
    rw [gd.word m] at a3
    have a1' := dMul_T (xs := G') (k := m) (by omega) (by omega)
    have mp : (pw G' m).length = m * G'.length := pw_length G' m
    have mp' : m * G'.length ≤ 12 * 200 := Nat.mul_le_mul hm hg'
    have a2' := dAdd_T (xs := L') (ys := pw G' m) (by omega)
    have a3' := dAdd_T (xs := L' ++ pw G' m) (ys := R') (by rw [List.length_append]; omega)
    rw [gd2.word m] at a3'
    show _ = some (Except.ok (if (!decide (f2.w (Int.toNat (m : Int)) = f.w (Int.toNat (m : Int)))) then some (D.int (m : Int)) else none), n)
    rw [Int.toNat_natCast]
    generalize f.w m = wm at *
    generalize f2.w m = wm2 at *
    generalize pw G m = pg at *
    generalize pw G' m = pg' at *
    by_cases q : wm2 = wm
    · simp [hide_c, a1, a2, a3, a1', a2', a3', dNe_T, q]
    · simp [hide_c, a1, a2, a3, a1', a2', a3', dNe_T, q]
  have e : (rngD 0 13).filterMap (fun d => if (match d with | .int i => !decide (f2.w i.toNat = f.w i.toNat) | _ => false) then some d else none) = (((List.range 13).filter fun k => !decide (f2.w k = f.w k)).map fun k : Nat => D.int (k : Int)) := by
    unfold rngD
    show ((List.range 13).map _).filterMap _ = _
    rw [List.filterMap_map]
    generalize List.range 13 = ks
    induction ks with
    | nil => rfl
    | cons k ks ih =>
      rw [List.filterMap_cons, List.filter_cons, ih]
      by_cases q : f2.w k = f.w k
      · simp [q]
      · simp [q]
  rw [e] at cm
  have lk : (((List.range 13).filter fun k => !decide (f2.w k = f.w k)).map fun k : Nat => D.int (k : Int)).length ≤ 16777216 := by
    rw [List.length_map]
    have := List.length_filter_le (fun k => !decide (f2.w k = f.w k)) (List.range 13)
    rw [List.length_range] at this
    omega
  simp only [eComp_ap, bind_ap, iRng1D_ap, eCons_ap, eC_ap, eNil_ap, bindR_ok, pure_ap, r, opt_some, cm, mkLst_of lk]
end K11
end

section
set_option Elab.async false
set_option linter.all false
set_option autoImplicit false
set_option maxRecDepth 100000
namespace K11
open DL PySem L2 P_k11_whole_families
def T0 (W : Wd) : SX := (sAsg (gT (gsC (gV 3) (gsC (gV 4) gsN))) (eTup (eCons (eCall (f__law_small_word W) (eCons (eVar 1) (eCons (eC (.int 5)) eNil))) (eCons (eCall (f__law_small_word W) (eCons (eVar 1) (eCons (eC (.int 5)) eNil))) eNil))))
def T1 (W : Wd) : SX := (sAsg (gV 5) (e2 dAdd (eCall (f__law_small_word W) (eCons (eVar 1) (eCons (eC (.int 3)) eNil))) (eTup (eCons (eTup (eCons (eC (.str "p")) (eCons (eC (.str "a")) eNil))) eNil))))
def T2 (W : Wd) : SX := (sIf (tB (e2 dEq (eCall (f__law_take W) (eCons (eVar 1) (eCons (eC (.int 3)) eNil))) (eC (.int 0)))) (sAsg (gV 5) (e2 dAdd (eVar 5) (eVar 5))) sNx)
def T3 (W : Wd) : SX := (sAsg (gV 6) (eMake 0 (f_Family___init__) (eCons (eVar 3) (eCons (eVar 5) (eCons (eVar 4) eNil)))))
def T4 (W : Wd) : SX := (sFor (gV 7) (iRng1D (eCons (eC (.int 6)) eNil)) body6)
def T5 (W : Wd) : SX := (sIf (tOrD (tTru (eCall (f__law_is_power) (eCons (e1 (dFld 0 "core") (eVar 6)) eNil))) (tOrD (tB (e2 dEq (eCut (e1 (dFld 0 "left") (eVar 6)) (oSome (e1 dNeg (eC (.int 1)))) oNone) (eCut (e1 (dFld 0 "core") (eVar 6)) (oSome (e1 dNeg (eC (.int 1)))) oNone))) (tB (e2 dEq (eCut (e1 (dFld 0 "right") (eVar 6)) oNone (oSome (eB dLen (eCons (e1 (dFld 0 "core") (eVar 6)) eNil)))) (e1 (dFld 0 "core") (eVar 6)))))) (sRet (eC (.bl false))) sNx)
def T6 (W : Wd) : SX := (sIf (tAndD (tB (e1 (fun d => some (.bl (!isNon d))) (eMeth 0 "of_length" (f_Family_of_length) (eVar 6) (eCons (e2 dAdd (e2 dAdd (e2 dAdd (eB dLen (eCons (e1 (dFld 0 "left") (eVar 6)) eNil)) (eB dLen (eCons (e1 (dFld 0 "right") (eVar 6)) eNil))) (eB dLen (eCons (e1 (dFld 0 "core") (eVar 6)) eNil))) (eC (.int 1))) eNil)))) (tB (e2 dGt (eB dLen (eCons (e1 (dFld 0 "core") (eVar 6)) eNil)) (eC (.int 1))))) (sRet (eC (.bl false))) sNx)
def T7 (W : Wd) : SX := (sAsg (gV 9) (eIf (tB (e2 dGt (eCall (f__law_take W) (eCons (eVar 1) (eCons (eC (.int 3)) eNil))) (eC (.int 0)))) (eCall (f__law_other W) (eCons (eVar 1) (eCons (eVar 3) (eCons (eVar 5) (eCons (eVar 4) eNil))))) (eTup (eCons (eCall (f__law_small_word W) (eCons (eVar 1) (eCons (eC (.int 3)) eNil))) (eCons (eVar 5) (eCons (eVar 4) eNil))))))
def T8 (W : Wd) : SX := (sAsg (gV 10) (eMake 0 (f_Family___init__) (eCons (e2 dIx (eVar 9) (eC (.int 0))) (eCons (e2 dIx (eVar 9) (eC (.int 1))) (eCons (e2 dIx (eVar 9) (eC (.int 2))) eNil)))))
def T9 (W : Wd) : SX := (sAsg (gV 11) (eComp [7] (gV 7) (iRng1D (eCons (eC (.int 13)) eNil)) (tB (e2 dNe (e2 dAdd (e2 dAdd (e2 dIx (eVar 9) (eC (.int 0))) (e2 dMul (e2 dIx (eVar 9) (eC (.int 1))) (eVar 7))) (e2 dIx (eVar 9) (eC (.int 2)))) (e2 dAdd (e2 dAdd (eVar 3) (e2 dMul (eVar 5) (eVar 7))) (eVar 4)))) (eVar 7)))
def T10 (W : Wd) : SX := (sIf (tOrD (tB (e2 dNe (eCall (f_same_family) (eCons (eVar 6) (eCons (eVar 10) eNil))) (e2 dEq (eVar 11) (eLst eNil)))) (tB (e2 dNe (eCall (f_first_unlike) (eCons (eVar 6) (eCons (eVar 10) eNil))) (eIf (tB (e2 dNe (eVar 11) (eLst eNil))) (e2 dIx (eVar 11) (eC (.int 0))) (eC .non))))) (sRet (eC (.bl false))) sNx)
def T11 (W : Wd) : SX := (sAsg (gV 12) (eCall (f_family_of) (eCons (eTup (eCons (eVar 3) (eCons (eVar 5) (eCons (eVar 4) eNil)))) eNil)))
def T12 (W : Wd) : SX := (sIf (tB (e2 dNe (eTup (eCons (e1 (dFld 0 "left") (eVar 12)) (eCons (e1 (dFld 0 "core") (eVar 12)) (eCons (e1 (dFld 0 "right") (eVar 12)) (eCons (e1 (dFld 0 "rate") (eVar 12)) (eCons (e1 (dFld 0 "more") (eVar 12)) eNil)))))) (eTup (eCons (e1 (dFld 0 "left") (eVar 6)) (eCons (e1 (dFld 0 "core") (eVar 6)) (eCons (e1 (dFld 0 "right") (eVar 6)) (eCons (e1 (dFld 0 "rate") (eVar 6)) (eCons (e1 (dFld 0 "more") (eVar 6)) eNil)))))))) (sRet (eC (.bl false))) sNx)
theorem bodyT_eq (W : Wd) : bodyT W = sSeq (T0 W) (sSeq (T1 W) (sSeq (T2 W) (sSeq (T3 W) (sSeq (T4 W) (sSeq (T5 W) (sSeq (T6 W) (sSeq (T7 W) (sSeq (T8 W) (sSeq (T9 W) (sSeq (T10 W) (sSeq (T11 W) (T12 W)))))))))))) := rfl

theorem t02 (W : Wd) (s2 s3 s4 s5 s6 s7 s8 s9 s10 s11 s12 : Sl) (n : Int) : ∃ L R G : Word, ∃ n', L.length ≤ 5 ∧ R.length ≤ 5 ∧ G.length ≤ 8 ∧ G ≠ [] ∧ ∀ k : SX, (sSeq (T0 W) (sSeq (T1 W) (sSeq (T2 W) k))) [.val .scr, .val .drw, s2, s3, s4, s5, s6, s7, s8, s9, s10, s11, s12] n = k [.val .scr, .val .drw, s2, .val (encT L), .val (encT R), .val (encT G), s6, s7, s8, s9, s10, s11, s12] n' := by
  obtain ⟨L, n1, hL, eL⟩ := small_ok W 5 (by omega) n
  obtain ⟨R, n2, hR, eR⟩ := small_ok W 5 (by omega) n1
  obtain ⟨g, n3, hg, eg⟩ := small_ok W 3 (by omega) n2
  obtain ⟨v, v0, v1, ev⟩ := take_ok W 3 n3 (by omega)
  rw [show ((5 : Nat) : Int) = 5 from rfl] at eL eR
  rw [show ((3 : Nat) : Int) = 3 from rfl] at eg
  have a : dAdd (encT g) (.tup [.tup [.str "p", .str "a"]]) = some (encT (g ++ [Cell.p])) := dAdd_T (xs := g) (ys := [Cell.p]) (by simp; omega)
  have a' := dAdd_T (xs := g ++ [Cell.p]) (ys := g ++ [Cell.p]) (by simp; omega)
  have st0 : T0 W [.val .scr, .val .drw, s2, s3, s4, s5, s6, s7, s8, s9, s10, s11, s12] n = some (.ok (.nx [.val .scr, .val .drw, s2, .val (encT L), .val (encT R), s5, s6, s7, s8, s9, s10, s11, s12]), n2) := by
    unfold T0
    simp [eL, eR]
  have st1 : T1 W [.val .scr, .val .drw, s2, .val (encT L), .val (encT R), s5, s6, s7, s8, s9, s10, s11, s12] n2 = some (.ok (.nx [.val .scr, .val .drw, s2, .val (encT L), .val (encT R), .val (encT (g ++ [Cell.p])), s6, s7, s8, s9, s10, s11, s12]), n3) := by
    unfold T1
    simp [eg, a]
  by_cases q : v = 0
  · refine ⟨L, R, (g ++ [Cell.p]) ++ (g ++ [Cell.p]), n3 + 1, hL, hR, by simp; omega, by simp, fun k => ?_⟩
    refine seq_go st0 (seq_go st1 (seq_go ?_ rfl))
    unfold T2
    simp [ev, q, a']
  · refine ⟨L, R, g ++ [Cell.p], n3 + 1, hL, hR, by simp; omega, by simp, fun k => ?_⟩
    refine seq_go st0 (seq_go st1 (seq_go ?_ rfl))
    unfold T2
    simp [ev, q]
theorem small_of {L G R : Word} {f : Fam Cell} (gd : Good L G R f) (c : f.C.length ≤ G.length) (ra : f.rate ≤ G.length) (r : f.R.length ≤ R.length + L.length) (mo : f.more ≤ R.length + L.length) (hg : G.length ≤ 30) (h : R.length + L.length ≤ 100) : Small f :=
  ⟨by have := gd.short; omega, by omega, by omega, by omega, by omega, gd.ne⟩
theorem t3 (W : Wd) (L R G : Word) (f : Fam Cell) (ei : ∀ n, f_Family___init__ [encT L, encT G, encT R] n = some (.ok (encF f), n)) (s2 s6 s7 s8 s9 s10 s11 s12 : Sl) (n : Int) : T3 W [.val .scr, .val .drw, s2, .val (encT L), .val (encT R), .val (encT G), s6, s7, s8, s9, s10, s11, s12] n = some (.ok (.nx [.val .scr, .val .drw, s2, .val (encT L), .val (encT R), .val (encT G), .val (encF f), s7, s8, s9, s10, s11, s12]), n) := by
  unfold T3
  simp [ei]
theorem t4 (W : Wd) (L R G : Word) (f : Fam Cell) (hf : Small f) (gd : Good L G R f) (hl : L.length ≤ 100) (hg : G.length ≤ 100) (hr : R.length ≤ 100) (s2 s7 s8 s9 s10 s11 s12 : Sl) (n : Int) : ∃ s7' s8' : Sl, T4 W [.val .scr, .val .drw, s2, .val (encT L), .val (encT R), .val (encT G), .val (encF f), s7, s8, s9, s10, s11, s12] n = some (.ok (.nx [.val .scr, .val .drw, s2, .val (encT L), .val (encT R), .val (encT G), .val (encF f), s7', s8', s9, s10, s11, s12]), n) := by
  have r := dRng1_ok (j := 6) (by omega) (by omega)
  obtain ⟨ρ', n', e, hn, a, b, hρ⟩ := forD_inv (gV 7) body6 (fun ρ m => m = n ∧ ∃ a b : Sl, ρ = [.val .scr, .val .drw, s2, .val (encT L), .val (encT R), .val (encT G), .val (encF f), a, b, s9, s10, s11, s12]) (rngD 0 6) (fun d hd ρ m hI => by
    obtain ⟨rfl, a, b, rfl⟩ := hI
    obtain ⟨i, rfl, h1, h2⟩ := mem_rngD hd
    obtain ⟨k, rfl⟩ : ∃ k : Nat, i = (k : Int) := ⟨i.toNat, by omega⟩
    exact ⟨_, _, _, rfl, step6 L G R f hf gd hl hg hr k (by omega) s2 b s9 s10 s11 s12 _, rfl, _, _, rfl⟩) _ n ⟨rfl, s7, s8, rfl⟩
  refine ⟨a, b, ?_⟩
  rw [hn, hρ] at e
  unfold T4
  show sFor (gV 7) (iRng1D (eCons (eC (.int 6)) eNil)) body6 _ n = _
  rw [sFor_ap]
  simp [r, e]
theorem t5 (W : Wd) (L R G : Word) (f : Fam Cell) (hf : Small f) (gd : Good L G R f) (hg : G.length ≤ 100) (s2 s7 s8 s9 s10 s11 s12 : Sl) (n : Int) : T5 W [.val .scr, .val .drw, s2, .val (encT L), .val (encT R), .val (encT G), .val (encF f), s7, s8, s9, s10, s11, s12] n = some (.ok (.nx [.val .scr, .val .drw, s2, .val (encT L), .val (encT R), .val (encT G), .val (encF f), s7, s8, s9, s10, s11, s12]), n) := by
  have lc : 0 < f.C.length := List.length_pos_iff.mpr hf.ne
  have pn := power_no f.C hf.c hf.ne (fun k h1 h2 h3 => gd.prim k h1 h2 (by rw [gd.len]; rw [Nat.mul_mod, h3]; simp)) n
  have q1 : ¬ f.L.drop (f.L.length - 1) = f.C.drop (f.C.length - 1) := fun e => by
    rcases gd.left with h | h
    · rw [h] at e
      have := congrArg List.length e
      rw [List.length_drop, List.length_drop, List.length_nil] at this
      omega
    · have h1 : (f.L.drop (f.L.length - 1)).getLast? = (f.C.drop (f.C.length - 1)).getLast? := by rw [e]
      by_cases z : f.L = []
      · rw [z] at e
        have := congrArg List.length e
        rw [List.length_drop, List.length_drop, List.length_nil] at this
        omega
      · have lz : 0 < f.L.length := List.length_pos_iff.mpr z
        rw [List.getLast?_drop, List.getLast?_drop, if_neg (by omega), if_neg (by omega)] at h1
        exact h h1
  have q2 := gd.right
  have c1 := cut_to f.R f.C.length
  unfold T5
  simp [pn, dEq_T, q1, q2]
theorem t6 (W : Wd) (L R G : Word) (f : Fam Cell) (hf : Small f) (s2 s7 s8 s9 s10 s11 s12 : Sl) (n : Int) : T6 W [.val .scr, .val .drw, s2, .val (encT L), .val (encT R), .val (encT G), .val (encF f), s7, s8, s9, s10, s11, s12] n = some (.ok (.nx [.val .scr, .val .drw, s2, .val (encT L), .val (encT R), .val (encT G), .val (encF f), s7, s8, s9, s10, s11, s12]), n) := by
  unfold T6
  by_cases h : 1 < f.C.length
  · have o := of_length_no f hf h n
    simp [o]
  · have lc : 0 < f.C.length := List.length_pos_iff.mpr hf.ne
    have h1 : f.C.length = 1 := by omega
    have r1 : ((f.L.length : Int) + f.R.length + 1 + 1) - f.L.length - f.R.length = 2 := by omega
    have m1 := dMod_int (i := 2) (j := 1) (by omega)
    have m2 := dDiv_int (i := 2) (j := 1) (by omega) (by omega)
    have h4 := dMul_T (xs := f.C) (k := 2) (by omega) (by have := hf.c; omega)
    have hp := pw_length f.C 2
    have := hf.l
    have := hf.r
    have h5 := dAdd_T (xs := f.L) (ys := pw f.C 2) (by rw [hp]; omega)
    have h6 := dAdd_T (xs := f.L ++ pw f.C 2) (ys := f.R) (by rw [List.length_append, hp]; omega)
    rw [show ((2 : Nat) : Int) = 2 from rfl] at h4
    generalize pw f.C 2 = pc at *
    have p : f_Family_of_length [encF f, .int ((f.L.length : Int) + f.R.length + 1 + 1)] n = some (.ok (encT (f.L ++ pc ++ f.R)), n) := by
      obtain ⟨y, hy⟩ : ∃ y : Int, y = (f.L.length : Int) + f.R.length + 1 + 1 := ⟨_, rfl⟩
      rw [← hy] at r1 ⊢
      simp only [f_Family_of_length, g_Family_of_length]
      simp [r1, h1, m1, m2, h4, h5, h6]
    have nn : ∀ x : Word, isNon (encT x) = false := fun _ => rfl
    simp [h1, p, nn]
end K11
end

section
set_option Elab.async false
set_option linter.all false
set_option autoImplicit false
set_option maxRecDepth 100000
namespace K11
open DL PySem L2 P_k11_whole_families

theorem t7 (W : Wd) (L R G : Word) (f : Fam Cell) (hl : L.length ≤ 5) (hg : G.length ≤ 8) (hr : R.length ≤ 5) (hG : G ≠ []) (s2 s7 s8 s9 s10 s11 s12 : Sl) (n : Int) : ∃ L' G' R' : Word, ∃ n', T7 W [.val .scr, .val .drw, s2, .val (encT L), .val (encT R), .val (encT G), .val (encF f), s7, s8, s9, s10, s11, s12] n = some (.ok (.nx [.val .scr, .val .drw, s2, .val (encT L), .val (encT R), .val (encT G), .val (encF f), s7, s8, .val (.tup [encT L', encT G', encT R']), s10, s11, s12]), n') ∧ G' ≠ [] ∧ L'.length ≤ 5 + G.length ∧ G'.length ≤ 16 ∧ R'.length ≤ 13 := by
  obtain ⟨v, v0, v1, ev⟩ := take_ok W 3 n (by omega)
  by_cases q : 0 < v
  · obtain ⟨L', G', R', n', e, h1, h2, h3, h4⟩ := other_ok W L G R (by omega) (by omega) (by omega) hG (n + 1)
    refine ⟨L', G', R', n', ?_, h1, by omega, by omega, by omega⟩
    unfold T7
    simp [ev, q, e]
  · obtain ⟨g, n', hg', eg⟩ := small_ok W 3 (by omega) (n + 1)
    rw [show ((3 : Nat) : Int) = 3 from rfl] at eg
    refine ⟨g, G, R, n', ?_, hG, by omega, by omega, by omega⟩
    unfold T7
    simp [ev, q, eg]
theorem t8 (W : Wd) (L R G L' R' G' : Word) (f f2 : Fam Cell) (ei : ∀ n, f_Family___init__ [encT L', encT G', encT R'] n = some (.ok (encF f2), n)) (s2 s7 s8 s10 s11 s12 : Sl) (n : Int) : T8 W [.val .scr, .val .drw, s2, .val (encT L), .val (encT R), .val (encT G), .val (encF f), s7, s8, .val (.tup [encT L', encT G', encT R']), s10, s11, s12] n = some (.ok (.nx [.val .scr, .val .drw, s2, .val (encT L), .val (encT R), .val (encT G), .val (encF f), s7, s8, .val (.tup [encT L', encT G', encT R']), .val (encF f2), s11, s12]), n) := by
  unfold T8
  simp [ei]
theorem t9 (W : Wd) (L R G L' R' G' : Word) (f f2 : Fam Cell) (gd : Good L G R f) (gd2 : Good L' G' R' f2)
    (hl : L.length ≤ 200) (hg : G.length ≤ 200) (hr : R.length ≤ 200) (hl' : L'.length ≤ 200) (hg' : G'.length ≤ 200) (hr' : R'.length ≤ 200) (s2 s7 s8 s11 s12 : Sl) (n : Int) : T9 W [.val .scr, .val .drw, s2, .val (encT L), .val (encT R), .val (encT G), .val (encF f), s7, s8, .val (.tup [encT L', encT G', encT R']), .val (encF f2), s11, s12] n = some (.ok (.nx [.val .scr, .val .drw, s2, .val (encT L), .val (encT R), .val (encT G), .val (encF f), s7, s8, .val (.tup [encT L', encT G', encT R']), .val (encF f2), .val (.lst (((List.range 13).filter fun k => !decide (f2.w k = f.w k)).map fun k : Nat => D.int (k : Int))), s12]), n) := by
  have u := unlike_ok _ L G R f f2 L' G' R' rfl gd gd2 hl hg hr hl' hg' hr' s2 (.val (encF f)) s7 s8 (.val (encF f2)) s11 s12 n
  unfold T9
  rw [sAsg_ap, bind_ap, u]
  rfl
theorem t10 (W : Wd) (L R G L' R' G' : Word) (f f2 : Fam Cell) (hf : Small f) (hf2 : Small f2) (gd : Good L G R f) (gd2 : Good L' G' R' f2) (hG : G ≠ []) (b : f.L.length ≤ 11 * G.length) (b' : f2.L.length ≤ 11 * G.length) (s2 s7 s8 s12 : Sl) (n : Int) : T10 W [.val .scr, .val .drw, s2, .val (encT L), .val (encT R), .val (encT G), .val (encF f), s7, s8, .val (.tup [encT L', encT G', encT R']), .val (encF f2), .val (.lst (((List.range 13).filter fun k => !decide (f2.w k = f.w k)).map fun k : Nat => D.int (k : Int))), s12] n = some (.ok (.nx [.val .scr, .val .drw, s2, .val (encT L), .val (encT R), .val (encT G), .val (encF f), s7, s8, .val (.tup [encT L', encT G', encT R']), .val (encF f2), .val (.lst (((List.range 13).filter fun k => !decide (f2.w k = f.w k)).map fun k : Nat => D.int (k : Int))), s12]), n) := by
  have sa := same_ok f f2 n
  unfold T10
  rcases filt (fun k => !decide (f2.w k = f.w k)) 13 with ⟨e, h⟩ | ⟨k, r, e, h1, h2, h3⟩
  · have al : ∀ k, k ≤ 12 → f.w k = f2.w k := fun k hk => by
      have := h k (by omega)
      simp at this
      exact this.symm
    have ff : f = f2 := unique gd gd2 hG (al 0 (by omega)) (al 1 (by omega)) (al 12 (by omega)) b b'
    rw [e]
    subst ff
    have fn := first_none f n
    have de : dEq (.lst []) (.lst []) = some (.bl true) := dEq_L (α := Int) [] []
    have dn : dNe (.lst []) (.lst []) = some (.bl false) := dNe_L (α := Int) [] []
    simp [sa, fn, de, dn]
  · have h2' : f2.w k ≠ f.w k := by simpa using h2
    have ff : ¬ f = f2 := fun x => h2' (by rw [x])
    have fs := first_some f f2 hf hf2 k (by omega) (fun x => h2' x.symm) (fun j hj => by
      have := h3 j hj
      simp at this
      exact this.symm) n
    rw [e]
    have lm : D.lst ((k :: r).map fun k : Nat => D.int (k : Int)) = encL ((k :: r).map fun k : Nat => (k : Int)) := by
      unfold encL
      rw [List.map_map]
      rfl
    have de : dEq (.lst ((k :: r).map fun k : Nat => D.int (k : Int))) (.lst []) = some (.bl false) := by
      rw [lm]
      exact (dEq_L (α := Int) ((k :: r).map fun k : Nat => (k : Int)) []).trans (by simp)
    have dn : dNe (.lst ((k :: r).map fun k : Nat => D.int (k : Int))) (.lst []) = some (.bl true) := by
      rw [lm]
      exact (dNe_L (α := Int) ((k :: r).map fun k : Nat => (k : Int)) []).trans (by simp)
    have di : dIx (.lst ((k :: r).map fun k : Nat => D.int (k : Int))) (.int 0) = some (.int (k : Int)) := by
      show atI _ ((0 : Nat) : Int) = _
      exact atI_nat rfl
    generalize ((k :: r).map fun k : Nat => D.int (k : Int)) = ks at *
    simp [sa, ff, fs, de, dn, di]
theorem t11 (W : Wd) (L R G : Word) (f : Fam Cell) (ei : ∀ n, f_Family___init__ [encT L, encT G, encT R] n = some (.ok (encF f), n)) (s2 s7 s8 s9 s10 s11 s12 : Sl) (n : Int) : T11 W [.val .scr, .val .drw, s2, .val (encT L), .val (encT R), .val (encT G), .val (encF f), s7, s8, s9, s10, s11, s12] n = some (.ok (.nx [.val .scr, .val .drw, s2, .val (encT L), .val (encT R), .val (encT G), .val (encF f), s7, s8, s9, s10, s11, .val (encF f)]), n) := by
  unfold T11
  simp [f_family_of, g_family_of, ei]
inductive El where
  | w (x : Word)
  | i (n : Int)
  deriving DecidableEq
instance : PyE El where
  enc := fun e => match e with | .w x => encT x | .i n => .int n
  py := fun e => match e with | .w x => PyE.py x | .i n => PyE.py n
  to := fun e => match e with | .w x => PyE.to x | .i n => PyE.to n
  lay := fun e => match e with | .w x => PyE.lay x | .i n => PyE.lay n
  dep := fun e => match e with | .w x => PyE.dep x | .i n => PyE.dep n
  eqv := fun a b => match a, b with
    | .w x, .w y => (PyE.eqv x y).trans ⟨fun e => by rw [e], fun e => by injection e⟩
    | .i x, .i y => (PyE.eqv x y).trans ⟨fun e => by rw [e], fun e => by injection e⟩
    | .w x, .i y => ⟨fun e => by simp [PyE.py, PyData.eqv] at e, fun e => by injection e⟩
    | .i x, .w y => ⟨fun e => by simp [PyE.py, PyData.eqv] at e, fun e => by injection e⟩
theorem t12 (W : Wd) (L R G : Word) (f : Fam Cell) (s2 s7 s8 s9 s10 s11 : Sl) (n : Int) : T12 W [.val .scr, .val .drw, s2, .val (encT L), .val (encT R), .val (encT G), .val (encF f), s7, s8, s9, s10, s11, .val (encF f)] n = some (.ok (.nx [.val .scr, .val .drw, s2, .val (encT L), .val (encT R), .val (encT G), .val (encF f), s7, s8, s9, s10, s11, .val (encF f)]), n) := by
  have e : D.tup [encT f.L, encT f.C, encT f.R, .int f.rate, .int f.more] = encT (α := El) [.w f.L, .w f.C, .w f.R, .i f.rate, .i f.more] := rfl
  have h := dNe_T (α := El) [.w f.L, .w f.C, .w f.R, .i f.rate, .i f.more] [.w f.L, .w f.C, .w f.R, .i f.rate, .i f.more]
  rw [← e] at h
  have h' : dNe (D.tup [encT f.L, encT f.C, encT f.R, .int f.rate, .int f.more]) (D.tup [encT f.L, encT f.C, encT f.R, .int f.rate, .int f.more]) = some (.bl false) := h.trans (by simp)
  unfold T12
  simp [h']
theorem turn_ok (W : Wd) (s2 s3 s4 s5 s6 s7 s8 s9 s10 s11 s12 : Sl) (n : Int) : ∃ t3 t4 t5 t6 t7 t8 t9 t10 t11 t12 : Sl, ∃ n', bodyT W [.val .scr, .val .drw, s2, s3, s4, s5, s6, s7, s8, s9, s10, s11, s12] n = some (.ok (.nx [.val .scr, .val .drw, s2, t3, t4, t5, t6, t7, t8, t9, t10, t11, t12]), n') := by
  obtain ⟨L, R, G, n1, hL, hR, hg, hG, e0⟩ := t02 W s2 s3 s4 s5 s6 s7 s8 s9 s10 s11 s12 n
  obtain ⟨f, ei, gd, fc, fr, fR, fm⟩ := init_ok L G R hG (by omega) (by omega) (by omega)
  have hf := small_of gd fc fr fR fm (by omega) (by omega)
  obtain ⟨s7', s8', e4⟩ := t4 W L R G f hf gd (by omega) (by omega) (by omega) s2 s7 s8 s9 s10 s11 s12 n1
  obtain ⟨L', G', R', n2, e7, hG', hL', hg', hR'⟩ := t7 W L R G f hL hg hR hG s2 s7' s8' s9 s10 s11 s12 n1
  obtain ⟨f2, ei2, gd2, fc2, fr2, fR2, fm2⟩ := init_ok L' G' R' hG' (by omega) (by omega) (by omega)
  have hf2 := small_of gd2 fc2 fr2 fR2 fm2 (by omega) (by omega)
  have lg : 0 < G.length := List.length_pos_iff.mpr hG
  have b1 := gd.short
  have b2 := gd2.short
  refine ⟨.val (encT L), .val (encT R), .val (encT G), .val (encF f), s7', s8', .val (.tup [encT L', encT G', encT R']), .val (encF f2), .val (.lst (((List.range 13).filter fun k => !decide (f2.w k = f.w k)).map fun k : Nat => D.int (k : Int))), .val (encF f), n2, ?_⟩
  rw [bodyT_eq, e0]
  exact seq_go (t3 W L R G f ei s2 s6 s7 s8 s9 s10 s11 s12 n1) (seq_go e4 (seq_go (t5 W L R G f hf gd (by omega) s2 s7' s8' s9 s10 s11 s12 n1) (seq_go (t6 W L R G f hf s2 s7' s8' s9 s10 s11 s12 n1) (seq_go e7 (seq_go (t8 W L R G L' R' G' f f2 ei2 s2 s7' s8' s10 s11 s12 n2) (seq_go (t9 W L R G L' R' G' f f2 gd gd2 (by omega) (by omega) (by omega) (by omega) (by omega) (by omega) s2 s7' s8' s11 s12 n2) (seq_go (t10 W L R G L' R' G' f f2 hf hf2 gd gd2 hG (by omega) (by omega) s2 s7' s8' s12 n2) (seq_go (t11 W L R G f ei s2 s7' s8' _ _ _ s12 n2) (t12 W L R G f s2 s7' s8' _ _ _ n2)))))))))
theorem good (W : Wd) : ∃ n', g_law W (.val .scr :: .val .drw :: List.replicate (N_law.length - 2) Sl.no) 0 = some (.ok (.ret (.bl true)), n') := by
  have r := dRng1_ok (j := 4) (by omega) (by omega)
  obtain ⟨ρ', n', e, s2, s3, s4, s5, s6, s7, s8, s9, s10, s11, s12, hρ⟩ := forD_inv (gV 2) (bodyT W) (fun ρ _ => ∃ s2 s3 s4 s5 s6 s7 s8 s9 s10 s11 s12 : Sl, ρ = [.val .scr, .val .drw, s2, s3, s4, s5, s6, s7, s8, s9, s10, s11, s12]) (rngD 0 4) (fun d hd ρ m hI => by
    obtain ⟨s2, s3, s4, s5, s6, s7, s8, s9, s10, s11, s12, rfl⟩ := hI
    obtain ⟨_, _, _, _, _, _, _, _, _, _, n', e⟩ := turn_ok W (.val d) s3 s4 s5 s6 s7 s8 s9 s10 s11 s12 m
    exact ⟨_, _, _, rfl, e, _, _, _, _, _, _, _, _, _, _, _, rfl⟩) (.val .scr :: .val .drw :: List.replicate (N_law.length - 2) Sl.no) 0 ⟨_, _, _, _, _, _, _, _, _, _, _, rfl⟩
  refine ⟨n', ?_⟩
  show sSeq (sFor (gV 2) (iRng1D (eCons (eC (.int 4)) eNil)) (bodyT W)) (sRet (eC (.bl true))) _ 0 = _
  refine seq_go (ρ1 := ρ') (n1 := n') ?_ rfl
  rw [sFor_ap]
  simp only [bind_ap, iRng1D_ap, eCons_ap, eC_ap, eNil_ap, bindR_ok, pure_ap, r, opt_some, e]
end K11
end

section
set_option Elab.async false
set_option linter.all false
set_option maxRecDepth 100000
set_option maxHeartbeats 4000000
/-! printed by gen.py -/
namespace P_k11_whole_families
open PySem PySem.Spec L2 DL
open PyProof.Rows (envOfC)
theorem all_mk {l : PySem.W.OpenLaw} {w : World} {K : PySem.W.Frag} {h : Heap} {mg : Str → Option Value} {fa : Addr} (X : K.In h) (G : h.Ns mainGlobals mg) (hfa : mg "law" = some (.ref fa))
    {C0 : Addr}
    {a_root_of : Addr} {od_root_of an_root_of : Option Addr} {sl_root_of : Array (Option Value)} {oc_root_of kV_root_of dc_root_of pm_root_of cd_root_of ct_root_of : Value}
    {a_Family___init__ : Addr} {od_Family___init__ an_Family___init__ : Option Addr} {sl_Family___init__ : Array (Option Value)} {oc_Family___init__ kV_Family___init__ dc_Family___init__ pm_Family___init__ cd_Family___init__ ct_Family___init__ : Value}
    {a_Family_told : Addr} {od_Family_told an_Family_told : Option Addr} {sl_Family_told : Array (Option Value)} {oc_Family_told kV_Family_told dc_Family_told pm_Family_told cd_Family_told ct_Family_told : Value}
    {a_Family_rounds : Addr} {od_Family_rounds an_Family_rounds : Option Addr} {sl_Family_rounds : Array (Option Value)} {oc_Family_rounds kV_Family_rounds dc_Family_rounds pm_Family_rounds cd_Family_rounds ct_Family_rounds : Value}
    {a_Family_word : Addr} {od_Family_word an_Family_word : Option Addr} {sl_Family_word : Array (Option Value)} {oc_Family_word kV_Family_word dc_Family_word pm_Family_word cd_Family_word ct_Family_word : Value}
    {a_Family_length : Addr} {od_Family_length an_Family_length : Option Addr} {sl_Family_length : Array (Option Value)} {oc_Family_length kV_Family_length dc_Family_length pm_Family_length cd_Family_length ct_Family_length : Value}
    {a_Family_of_length : Addr} {od_Family_of_length an_Family_of_length : Option Addr} {sl_Family_of_length : Array (Option Value)} {oc_Family_of_length kV_Family_of_length dc_Family_of_length pm_Family_of_length cd_Family_of_length ct_Family_of_length : Value}
    {a_family_of : Addr} {od_family_of an_family_of : Option Addr} {sl_family_of : Array (Option Value)} {oc_family_of kV_family_of dc_family_of pm_family_of cd_family_of ct_family_of : Value}
    {a_same_family : Addr} {od_same_family an_same_family : Option Addr} {sl_same_family : Array (Option Value)} {oc_same_family kV_same_family dc_same_family pm_same_family cd_same_family ct_same_family : Value}
    {a_first_unlike : Addr} {od_first_unlike an_first_unlike : Option Addr} {sl_first_unlike : Array (Option Value)} {oc_first_unlike kV_first_unlike dc_first_unlike pm_first_unlike cd_first_unlike ct_first_unlike : Value}
    {a__law_number : Addr} {od__law_number an__law_number : Option Addr} {sl__law_number : Array (Option Value)} {oc__law_number kV__law_number dc__law_number pm__law_number cd__law_number ct__law_number : Value}
    {a__law_take : Addr} {od__law_take an__law_take : Option Addr} {sl__law_take : Array (Option Value)} {oc__law_take kV__law_take dc__law_take pm__law_take cd__law_take ct__law_take : Value}
    {a__law_pick : Addr} {od__law_pick an__law_pick : Option Addr} {sl__law_pick : Array (Option Value)} {oc__law_pick kV__law_pick dc__law_pick pm__law_pick cd__law_pick ct__law_pick : Value}
    {a__law_small_word : Addr} {od__law_small_word an__law_small_word : Option Addr} {sl__law_small_word : Array (Option Value)} {oc__law_small_word kV__law_small_word dc__law_small_word pm__law_small_word cd__law_small_word ct__law_small_word : Value}
    {a__law_is_power : Addr} {od__law_is_power an__law_is_power : Option Addr} {sl__law_is_power : Array (Option Value)} {oc__law_is_power kV__law_is_power dc__law_is_power pm__law_is_power cd__law_is_power ct__law_is_power : Value}
    {a__law_other : Addr} {od__law_other an__law_other : Option Addr} {sl__law_other : Array (Option Value)} {oc__law_other kV__law_other dc__law_other pm__law_other cd__law_other ct__law_other : Value}
    {a_law : Addr} {od_law an_law : Option Addr} {sl_law : Array (Option Value)} {oc_law kV_law dc_law pm_law cd_law ct_law : Value}
    (aC0 : PySem.W.nsIn K mainGlobals "Family" = some (some (.ref C0)))
    (pg0 : PySem.W.plainGet K C0 Str.empty = true)
    (hd0 : PySem.W.hasDictIn K C0 = true)
    (po0 : PySem.W.plainOver K C0 = true)
    (sa0 : PySem.W.findIn K (.ref C0) "__setattr__" = some (some (.builtin "object.__setattr__")))
    (mk0 : PySem.W.makesIn K C0 = true)
    (kc0 : PySem.W.keepIn K (.ref C0) = true)
    (n0_core : PySem.W.findIn K (.ref C0) "core" = some none)
    (n0_left : PySem.W.findIn K (.ref C0) "left" = some none)
    (n0_more : PySem.W.findIn K (.ref C0) "more" = some none)
    (n0_rate : PySem.W.findIn K (.ref C0) "rate" = some none)
    (n0_right : PySem.W.findIn K (.ref C0) "right" = some none)
    (b_abs : PySem.W.nsIn K mainGlobals "abs" = some none)
    (b_int : PySem.W.nsIn K mainGlobals "int" = some none)
    (b_len : PySem.W.nsIn K mainGlobals "len" = some none)
    (b_range : PySem.W.nsIn K mainGlobals "range" = some none)
    (b_tuple : PySem.W.nsIn K mainGlobals "tuple" = some none)
    (x_root_of : PySem.W.nsIn K mainGlobals "root_of" = some (some (.ref a_root_of)))
    (l_root_of : K.lookup a_root_of = some ⟨oc_root_of, od_root_of, .func (PySem.W.fnOf "root_of" "root_of" (defArgs s_root_of) (defBody s_root_of) (defScope s_root_of) .none kV_root_of dc_root_of pm_root_of an_root_of cd_root_of ct_root_of), sl_root_of⟩)
    (d_root_of : PySem.W.codeIn K cd_root_of "root_of" = true) (k_root_of : PySem.W.keepIn K (.ref a_root_of) = true)
    (x_Family___init__ : PySem.W.findIn K (.ref C0) "__init__" = some (some (.ref a_Family___init__))) (i_Family___init__ : PySem.W.isFn K (.ref a_Family___init__) = true)
    (l_Family___init__ : K.lookup a_Family___init__ = some ⟨oc_Family___init__, od_Family___init__, .func (PySem.W.fnOf "__init__" "Family.__init__" (defArgs s_Family___init__) (defBody s_Family___init__) (defScope s_Family___init__) .none kV_Family___init__ dc_Family___init__ pm_Family___init__ an_Family___init__ cd_Family___init__ ct_Family___init__), sl_Family___init__⟩)
    (d_Family___init__ : PySem.W.codeIn K cd_Family___init__ "Family.__init__" = true) (k_Family___init__ : PySem.W.keepIn K (.ref a_Family___init__) = true)
    (x_Family_told : PySem.W.findIn K (.ref C0) "told" = some (some (.ref a_Family_told))) (i_Family_told : PySem.W.isFn K (.ref a_Family_told) = true)
    (l_Family_told : K.lookup a_Family_told = some ⟨oc_Family_told, od_Family_told, .func (PySem.W.fnOf "told" "Family.told" (defArgs s_Family_told) (defBody s_Family_told) (defScope s_Family_told) .none kV_Family_told dc_Family_told pm_Family_told an_Family_told cd_Family_told ct_Family_told), sl_Family_told⟩)
    (d_Family_told : PySem.W.codeIn K cd_Family_told "Family.told" = true) (k_Family_told : PySem.W.keepIn K (.ref a_Family_told) = true)
    (x_Family_rounds : PySem.W.findIn K (.ref C0) "rounds" = some (some (.ref a_Family_rounds))) (i_Family_rounds : PySem.W.isFn K (.ref a_Family_rounds) = true)
    (l_Family_rounds : K.lookup a_Family_rounds = some ⟨oc_Family_rounds, od_Family_rounds, .func (PySem.W.fnOf "rounds" "Family.rounds" (defArgs s_Family_rounds) (defBody s_Family_rounds) (defScope s_Family_rounds) .none kV_Family_rounds dc_Family_rounds pm_Family_rounds an_Family_rounds cd_Family_rounds ct_Family_rounds), sl_Family_rounds⟩)
    (d_Family_rounds : PySem.W.codeIn K cd_Family_rounds "Family.rounds" = true) (k_Family_rounds : PySem.W.keepIn K (.ref a_Family_rounds) = true)
    (x_Family_word : PySem.W.findIn K (.ref C0) "word" = some (some (.ref a_Family_word))) (i_Family_word : PySem.W.isFn K (.ref a_Family_word) = true)
    (l_Family_word : K.lookup a_Family_word = some ⟨oc_Family_word, od_Family_word, .func (PySem.W.fnOf "word" "Family.word" (defArgs s_Family_word) (defBody s_Family_word) (defScope s_Family_word) .none kV_Family_word dc_Family_word pm_Family_word an_Family_word cd_Family_word ct_Family_word), sl_Family_word⟩)
    (d_Family_word : PySem.W.codeIn K cd_Family_word "Family.word" = true) (k_Family_word : PySem.W.keepIn K (.ref a_Family_word) = true)
    (x_Family_length : PySem.W.findIn K (.ref C0) "length" = some (some (.ref a_Family_length))) (i_Family_length : PySem.W.isFn K (.ref a_Family_length) = true)
    (l_Family_length : K.lookup a_Family_length = some ⟨oc_Family_length, od_Family_length, .func (PySem.W.fnOf "length" "Family.length" (defArgs s_Family_length) (defBody s_Family_length) (defScope s_Family_length) .none kV_Family_length dc_Family_length pm_Family_length an_Family_length cd_Family_length ct_Family_length), sl_Family_length⟩)
    (d_Family_length : PySem.W.codeIn K cd_Family_length "Family.length" = true) (k_Family_length : PySem.W.keepIn K (.ref a_Family_length) = true)
    (x_Family_of_length : PySem.W.findIn K (.ref C0) "of_length" = some (some (.ref a_Family_of_length))) (i_Family_of_length : PySem.W.isFn K (.ref a_Family_of_length) = true)
    (l_Family_of_length : K.lookup a_Family_of_length = some ⟨oc_Family_of_length, od_Family_of_length, .func (PySem.W.fnOf "of_length" "Family.of_length" (defArgs s_Family_of_length) (defBody s_Family_of_length) (defScope s_Family_of_length) .none kV_Family_of_length dc_Family_of_length pm_Family_of_length an_Family_of_length cd_Family_of_length ct_Family_of_length), sl_Family_of_length⟩)
    (d_Family_of_length : PySem.W.codeIn K cd_Family_of_length "Family.of_length" = true) (k_Family_of_length : PySem.W.keepIn K (.ref a_Family_of_length) = true)
    (x_family_of : PySem.W.nsIn K mainGlobals "family_of" = some (some (.ref a_family_of)))
    (l_family_of : K.lookup a_family_of = some ⟨oc_family_of, od_family_of, .func (PySem.W.fnOf "family_of" "family_of" (defArgs s_family_of) (defBody s_family_of) (defScope s_family_of) .none kV_family_of dc_family_of pm_family_of an_family_of cd_family_of ct_family_of), sl_family_of⟩)
    (d_family_of : PySem.W.codeIn K cd_family_of "family_of" = true) (k_family_of : PySem.W.keepIn K (.ref a_family_of) = true)
    (x_same_family : PySem.W.nsIn K mainGlobals "same_family" = some (some (.ref a_same_family)))
    (l_same_family : K.lookup a_same_family = some ⟨oc_same_family, od_same_family, .func (PySem.W.fnOf "same_family" "same_family" (defArgs s_same_family) (defBody s_same_family) (defScope s_same_family) .none kV_same_family dc_same_family pm_same_family an_same_family cd_same_family ct_same_family), sl_same_family⟩)
    (d_same_family : PySem.W.codeIn K cd_same_family "same_family" = true) (k_same_family : PySem.W.keepIn K (.ref a_same_family) = true)
    (x_first_unlike : PySem.W.nsIn K mainGlobals "first_unlike" = some (some (.ref a_first_unlike)))
    (l_first_unlike : K.lookup a_first_unlike = some ⟨oc_first_unlike, od_first_unlike, .func (PySem.W.fnOf "first_unlike" "first_unlike" (defArgs s_first_unlike) (defBody s_first_unlike) (defScope s_first_unlike) .none kV_first_unlike dc_first_unlike pm_first_unlike an_first_unlike cd_first_unlike ct_first_unlike), sl_first_unlike⟩)
    (d_first_unlike : PySem.W.codeIn K cd_first_unlike "first_unlike" = true) (k_first_unlike : PySem.W.keepIn K (.ref a_first_unlike) = true)
    (x__law_number : PySem.W.nsIn K mainGlobals "_law_number" = some (some (.ref a__law_number)))
    (l__law_number : K.lookup a__law_number = some ⟨oc__law_number, od__law_number, .func (PySem.W.fnOf "_law_number" "_law_number" (defArgs s__law_number) (defBody s__law_number) (defScope s__law_number) .none kV__law_number dc__law_number pm__law_number an__law_number cd__law_number ct__law_number), sl__law_number⟩)
    (d__law_number : PySem.W.codeIn K cd__law_number "_law_number" = true) (k__law_number : PySem.W.keepIn K (.ref a__law_number) = true)
    (x__law_take : PySem.W.nsIn K mainGlobals "_law_take" = some (some (.ref a__law_take)))
    (l__law_take : K.lookup a__law_take = some ⟨oc__law_take, od__law_take, .func (PySem.W.fnOf "_law_take" "_law_take" (defArgs s__law_take) (defBody s__law_take) (defScope s__law_take) .none kV__law_take dc__law_take pm__law_take an__law_take cd__law_take ct__law_take), sl__law_take⟩)
    (d__law_take : PySem.W.codeIn K cd__law_take "_law_take" = true) (k__law_take : PySem.W.keepIn K (.ref a__law_take) = true)
    (x__law_pick : PySem.W.nsIn K mainGlobals "_law_pick" = some (some (.ref a__law_pick)))
    (l__law_pick : K.lookup a__law_pick = some ⟨oc__law_pick, od__law_pick, .func (PySem.W.fnOf "_law_pick" "_law_pick" (defArgs s__law_pick) (defBody s__law_pick) (defScope s__law_pick) .none kV__law_pick dc__law_pick pm__law_pick an__law_pick cd__law_pick ct__law_pick), sl__law_pick⟩)
    (d__law_pick : PySem.W.codeIn K cd__law_pick "_law_pick" = true) (k__law_pick : PySem.W.keepIn K (.ref a__law_pick) = true)
    (x__law_small_word : PySem.W.nsIn K mainGlobals "_law_small_word" = some (some (.ref a__law_small_word)))
    (l__law_small_word : K.lookup a__law_small_word = some ⟨oc__law_small_word, od__law_small_word, .func (PySem.W.fnOf "_law_small_word" "_law_small_word" (defArgs s__law_small_word) (defBody s__law_small_word) (defScope s__law_small_word) .none kV__law_small_word dc__law_small_word pm__law_small_word an__law_small_word cd__law_small_word ct__law_small_word), sl__law_small_word⟩)
    (d__law_small_word : PySem.W.codeIn K cd__law_small_word "_law_small_word" = true) (k__law_small_word : PySem.W.keepIn K (.ref a__law_small_word) = true)
    (x__law_is_power : PySem.W.nsIn K mainGlobals "_law_is_power" = some (some (.ref a__law_is_power)))
    (l__law_is_power : K.lookup a__law_is_power = some ⟨oc__law_is_power, od__law_is_power, .func (PySem.W.fnOf "_law_is_power" "_law_is_power" (defArgs s__law_is_power) (defBody s__law_is_power) (defScope s__law_is_power) .none kV__law_is_power dc__law_is_power pm__law_is_power an__law_is_power cd__law_is_power ct__law_is_power), sl__law_is_power⟩)
    (d__law_is_power : PySem.W.codeIn K cd__law_is_power "_law_is_power" = true) (k__law_is_power : PySem.W.keepIn K (.ref a__law_is_power) = true)
    (x__law_other : PySem.W.nsIn K mainGlobals "_law_other" = some (some (.ref a__law_other)))
    (l__law_other : K.lookup a__law_other = some ⟨oc__law_other, od__law_other, .func (PySem.W.fnOf "_law_other" "_law_other" (defArgs s__law_other) (defBody s__law_other) (defScope s__law_other) .none kV__law_other dc__law_other pm__law_other an__law_other cd__law_other ct__law_other), sl__law_other⟩)
    (d__law_other : PySem.W.codeIn K cd__law_other "_law_other" = true) (k__law_other : PySem.W.keepIn K (.ref a__law_other) = true)
    (x_law : PySem.W.nsIn K mainGlobals "law" = some (some (.ref a_law)))
    (l_law : K.lookup a_law = some ⟨oc_law, od_law, .func (PySem.W.fnOf "law" "law" (defArgs s_law) (defBody s_law) (defScope s_law) .none kV_law dc_law pm_law an_law cd_law ct_law), sl_law⟩)
    (d_law : PySem.W.codeIn K cd_law "law" = true) (k_law : PySem.W.keepIn K (.ref a_law) = true) :
    ∃ fd : FuncData, (∀ (s : Shared) (v : Value), BindsTo s fd ⟨[v], []⟩ [("_law_script", v)]) ∧ ∀ base : Heap, K.In base → base.Ns mainGlobals mg → FnOk l.prog w K mg base CX0 5 fa fd ["_law_script"] (spLaw K) := by
  have e := hfa.symm.trans (PySem.W.mg_of X G x_law)
  cases e
  let cl : Nat → Addr := fun i => if i = 0 then C0 else 0
  have TT : ∀ W : Wd, W.cl = cl → Txt K mg W := fun W hW => ⟨by rw [hW]; exact ⟨pg0, hd0, po0, sa0⟩, by rw [hW]; exact n0_core, by rw [hW]; exact n0_left, by rw [hW]; exact n0_more, by rw [hW]; exact n0_rate, by rw [hW]; exact n0_right, PySem.W.mg_none_of X G b_abs, PySem.W.mg_none_of X G b_int, PySem.W.mg_none_of X G b_len, PySem.W.mg_none_of X G b_range, PySem.W.mg_none_of X G b_tuple⟩
  have F_root_of := fun_mk (st := s_root_of) l_root_of d_root_of k_root_of
  have B_root_of := F_root_of.binds (ps := ["word"]) fun _ _ _ _ _ _ us hl => match us, hl with | [_], _ => rfl
  have F_Family___init__ := fun_mk (st := s_Family___init__) l_Family___init__ d_Family___init__ k_Family___init__
  have B_Family___init__ := F_Family___init__.binds (ps := ["self", "left", "group", "right"]) fun _ _ _ _ _ _ us hl => match us, hl with | [_, _, _, _], _ => rfl
  have F_Family_told := fun_mk (st := s_Family_told) l_Family_told d_Family_told k_Family_told
  have B_Family_told := F_Family_told.binds (ps := ["self"]) fun _ _ _ _ _ _ us hl => match us, hl with | [_], _ => rfl
  have F_Family_rounds := fun_mk (st := s_Family_rounds) l_Family_rounds d_Family_rounds k_Family_rounds
  have B_Family_rounds := F_Family_rounds.binds (ps := ["self", "turns"]) fun _ _ _ _ _ _ us hl => match us, hl with | [_, _], _ => rfl
  have F_Family_word := fun_mk (st := s_Family_word) l_Family_word d_Family_word k_Family_word
  have B_Family_word := F_Family_word.binds (ps := ["self", "turns"]) fun _ _ _ _ _ _ us hl => match us, hl with | [_, _], _ => rfl
  have F_Family_length := fun_mk (st := s_Family_length) l_Family_length d_Family_length k_Family_length
  have B_Family_length := F_Family_length.binds (ps := ["self", "turns"]) fun _ _ _ _ _ _ us hl => match us, hl with | [_, _], _ => rfl
  have F_Family_of_length := fun_mk (st := s_Family_of_length) l_Family_of_length d_Family_of_length k_Family_of_length
  have B_Family_of_length := F_Family_of_length.binds (ps := ["self", "many"]) fun _ _ _ _ _ _ us hl => match us, hl with | [_, _], _ => rfl
  have F_family_of := fun_mk (st := s_family_of) l_family_of d_family_of k_family_of
  have B_family_of := F_family_of.binds (ps := ["row"]) fun _ _ _ _ _ _ us hl => match us, hl with | [_], _ => rfl
  have F_same_family := fun_mk (st := s_same_family) l_same_family d_same_family k_same_family
  have B_same_family := F_same_family.binds (ps := ["one", "two"]) fun _ _ _ _ _ _ us hl => match us, hl with | [_, _], _ => rfl
  have F_first_unlike := fun_mk (st := s_first_unlike) l_first_unlike d_first_unlike k_first_unlike
  have B_first_unlike := F_first_unlike.binds (ps := ["one", "two"]) fun _ _ _ _ _ _ us hl => match us, hl with | [_, _], _ => rfl
  have F__law_number := fun_mk (st := s__law_number) l__law_number d__law_number k__law_number
  have B__law_number := F__law_number.binds (ps := ["_law_script", "_law_index"]) fun _ _ _ _ _ _ us hl => match us, hl with | [_, _], _ => rfl
  have F__law_take := fun_mk (st := s__law_take) l__law_take d__law_take k__law_take
  have B__law_take := F__law_take.binds (ps := ["_law_draw", "_law_many"]) fun _ _ _ _ _ _ us hl => match us, hl with | [_, _], _ => rfl
  have F__law_pick := fun_mk (st := s__law_pick) l__law_pick d__law_pick k__law_pick
  have B__law_pick := F__law_pick.binds (ps := ["_law_draw", "_law_items"]) fun _ _ _ _ _ _ us hl => match us, hl with | [_, _], _ => rfl
  have F__law_small_word := fun_mk (st := s__law_small_word) l__law_small_word d__law_small_word k__law_small_word
  have B__law_small_word := F__law_small_word.binds (ps := ["_law_draw", "_law_many"]) fun _ _ _ _ _ _ us hl => match us, hl with | [_, _], _ => rfl
  have F__law_is_power := fun_mk (st := s__law_is_power) l__law_is_power d__law_is_power k__law_is_power
  have B__law_is_power := F__law_is_power.binds (ps := ["_law_word"]) fun _ _ _ _ _ _ us hl => match us, hl with | [_], _ => rfl
  have F__law_other := fun_mk (st := s__law_other) l__law_other d__law_other k__law_other
  have B__law_other := F__law_other.binds (ps := ["_law_draw", "_law_left", "_law_group", "_law_right"]) fun _ _ _ _ _ _ us hl => match us, hl with | [_, _, _, _], _ => rfl
  have F_law := fun_mk (st := s_law) l_law d_law k_law
  refine ⟨PySem.W.fnOf "law" "law" (defArgs s_law) (defBody s_law) (defScope s_law) .none kV_law dc_law pm_law an_law cd_law ct_law, fun s v => .of_eq rfl, fun base _ _ => ?_⟩
  refine okLaw (cl := cl) (rest := (defBody s_law).drop 1) (fun W => g_law W) F_law sc_law rfl (fun cdv A outer s H E => ps_set (i := 1) sc_law.nd rfl (Or.inl rfl) (pe_lst (pa_cons (pv 0) (pa_cons pe_int pa_nil)))) (fun W hW => ?_) (fun W h _ => K11.good W) (by decide)
  have T := TT W hW
  have G_root_of : Cal l.prog w K mg base "root_of" 1 (spD K W (f_root_of) 1) := ⟨_, _, _, ok_root_of F_root_of T , PySem.W.mg_of X G x_root_of, k_root_of, B_root_of⟩
  have G_Family___init__ : CalI l.prog w K mg base (W.cl 0) "Family" 2 (spI K W (f_Family___init__) 0 3) := ⟨_, _, _, ok_Family___init__ F_Family___init__ T G_root_of, by rw [hW]; exact ⟨mk0, x_Family___init__, i_Family___init__, kc0⟩, by rw [hW]; exact PySem.W.mg_of X G aC0, B_Family___init__⟩
  have G_Family_told : CalM l.prog w K mg base (W.cl 0) "told" 1 (spD K W (f_Family_told) 1) := ⟨_, _, _, ok_Family_told F_Family_told T , by rw [hW]; exact ⟨x_Family_told, i_Family_told, k_Family_told⟩, B_Family_told⟩
  have G_Family_rounds : CalM l.prog w K mg base (W.cl 0) "rounds" 1 (spD K W (f_Family_rounds) 2) := ⟨_, _, _, ok_Family_rounds F_Family_rounds T , by rw [hW]; exact ⟨x_Family_rounds, i_Family_rounds, k_Family_rounds⟩, B_Family_rounds⟩
  have G_Family_word : CalM l.prog w K mg base (W.cl 0) "word" 2 (spD K W (f_Family_word) 2) := ⟨_, _, _, ok_Family_word F_Family_word T G_Family_rounds, by rw [hW]; exact ⟨x_Family_word, i_Family_word, k_Family_word⟩, B_Family_word⟩
  have G_Family_length : CalM l.prog w K mg base (W.cl 0) "length" 2 (spD K W (f_Family_length) 2) := ⟨_, _, _, ok_Family_length F_Family_length T G_Family_rounds, by rw [hW]; exact ⟨x_Family_length, i_Family_length, k_Family_length⟩, B_Family_length⟩
  have G_Family_of_length : CalM l.prog w K mg base (W.cl 0) "of_length" 1 (spD K W (f_Family_of_length) 2) := ⟨_, _, _, ok_Family_of_length F_Family_of_length T , by rw [hW]; exact ⟨x_Family_of_length, i_Family_of_length, k_Family_of_length⟩, B_Family_of_length⟩
  have G_family_of : Cal l.prog w K mg base "family_of" 4 (spD K W (f_family_of) 1) := ⟨_, _, _, ok_family_of F_family_of T G_Family___init__, PySem.W.mg_of X G x_family_of, k_family_of, B_family_of⟩
  have G_same_family : Cal l.prog w K mg base "same_family" 2 (spD K W (f_same_family) 2) := ⟨_, _, _, ok_same_family F_same_family T G_Family_told, PySem.W.mg_of X G x_same_family, k_same_family, B_same_family⟩
  have G_first_unlike : Cal l.prog w K mg base "first_unlike" 3 (spD K W (f_first_unlike) 2) := ⟨_, _, _, ok_first_unlike F_first_unlike T G_same_family G_Family_word, PySem.W.mg_of X G x_first_unlike, k_first_unlike, B_first_unlike⟩
  have G__law_number : Cal l.prog w K mg base "_law_number" 1 (spD K W (f__law_number W) 2) := ⟨_, _, _, ok__law_number F__law_number T , PySem.W.mg_of X G x__law_number, k__law_number, B__law_number⟩
  have G__law_take : Cal l.prog w K mg base "_law_take" 2 (spD K W (f__law_take W) 2) := ⟨_, _, _, ok__law_take F__law_take T G__law_number, PySem.W.mg_of X G x__law_take, k__law_take, B__law_take⟩
  have G__law_pick : Cal l.prog w K mg base "_law_pick" 3 (spD K W (f__law_pick W) 2) := ⟨_, _, _, ok__law_pick F__law_pick T G__law_take, PySem.W.mg_of X G x__law_pick, k__law_pick, B__law_pick⟩
  have G__law_small_word : Cal l.prog w K mg base "_law_small_word" 4 (spD K W (f__law_small_word W) 2) := ⟨_, _, _, ok__law_small_word F__law_small_word T G__law_pick G__law_take, PySem.W.mg_of X G x__law_small_word, k__law_small_word, B__law_small_word⟩
  have G__law_is_power : Cal l.prog w K mg base "_law_is_power" 1 (spD K W (f__law_is_power) 1) := ⟨_, _, _, ok__law_is_power F__law_is_power T , PySem.W.mg_of X G x__law_is_power, k__law_is_power, B__law_is_power⟩
  have G__law_other : Cal l.prog w K mg base "_law_other" 3 (spD K W (f__law_other W) 4) := ⟨_, _, _, ok__law_other F__law_other T G__law_take, PySem.W.mg_of X G x__law_other, k__law_other, B__law_other⟩
  exact body_law F_law T G__law_is_power G__law_other G__law_small_word G__law_take G_family_of G_first_unlike G_same_family G_Family___init__ G_Family_length G_Family_of_length G_Family_word (Nat.le_refl _)
end P_k11_whole_families
open PySem PySem.W PyProof.Rows in
set_option maxRecDepth 100000 in
set_option maxHeartbeats 0 in
theorem PySem.Challenge.cw_allstitches_k11_whole_families_holds : PySem.Challenge.rw_allstitches_k11_whole_families.Holds := by
  w_on; o_law; k_head; (case hw => w_witness2)
  k_fill
  refine DL.law_walk (l := PySem.Challenge.rw_allstitches_k11_whole_families) (k := 5) (x := "_law_script") rfl rfl ⟨rfl, by decide, by decide⟩ (fun w h Y => PySem.W.kIn_of Y) ?F
  case F =>
    intro w mg fa h KX G hmg
    refine' P_k11_whole_families.all_mk KX G hmg ?aC0 ?pg0 ?hd0 ?po0 ?sa0 ?mk0 ?kc0 ?n0_core ?n0_left ?n0_more ?n0_rate ?n0_right ?b_abs ?b_int ?b_len ?b_range ?b_tuple ?x_root_of ?l_root_of ?d_root_of ?k_root_of ?x_Family___init__ ?i_Family___init__ ?l_Family___init__ ?d_Family___init__ ?k_Family___init__ ?x_Family_told ?i_Family_told ?l_Family_told ?d_Family_told ?k_Family_told ?x_Family_rounds ?i_Family_rounds ?l_Family_rounds ?d_Family_rounds ?k_Family_rounds ?x_Family_word ?i_Family_word ?l_Family_word ?d_Family_word ?k_Family_word ?x_Family_length ?i_Family_length ?l_Family_length ?d_Family_length ?k_Family_length ?x_Family_of_length ?i_Family_of_length ?l_Family_of_length ?d_Family_of_length ?k_Family_of_length ?x_family_of ?l_family_of ?d_family_of ?k_family_of ?x_same_family ?l_same_family ?d_same_family ?k_same_family ?x_first_unlike ?l_first_unlike ?d_first_unlike ?k_first_unlike ?x__law_number ?l__law_number ?d__law_number ?k__law_number ?x__law_take ?l__law_take ?d__law_take ?k__law_take ?x__law_pick ?l__law_pick ?d__law_pick ?k__law_pick ?x__law_small_word ?l__law_small_word ?d__law_small_word ?k__law_small_word ?x__law_is_power ?l__law_is_power ?d__law_is_power ?k__law_is_power ?x__law_other ?l__law_other ?d__law_other ?k__law_other ?x_law ?l_law ?d_law ?k_law
    (case aC0 => k_is)
    (case pg0 => k_is)
    (case hd0 => k_is)
    (case po0 => k_is)
    (case sa0 => k_is)
    (case mk0 => k_is)
    (case kc0 => k_is)
    (case n0_core => k_is)
    (case n0_left => k_is)
    (case n0_more => k_is)
    (case n0_rate => k_is)
    (case n0_right => k_is)
    (case b_abs => k_is)
    (case b_int => k_is)
    (case b_len => k_is)
    (case b_range => k_is)
    (case b_tuple => k_is)
    (case x_root_of => k_is)
    (case l_root_of => k_is)
    (case d_root_of => k_is)
    (case k_root_of => k_is)
    (case x_Family___init__ => k_is)
    (case i_Family___init__ => k_is)
    (case l_Family___init__ => k_is)
    (case d_Family___init__ => k_is)
    (case k_Family___init__ => k_is)
    (case x_Family_told => k_is)
    (case i_Family_told => k_is)
    (case l_Family_told => k_is)
    (case d_Family_told => k_is)
    (case k_Family_told => k_is)
    (case x_Family_rounds => k_is)
    (case i_Family_rounds => k_is)
    (case l_Family_rounds => k_is)
    (case d_Family_rounds => k_is)
    (case k_Family_rounds => k_is)
    (case x_Family_word => k_is)
    (case i_Family_word => k_is)
    (case l_Family_word => k_is)
    (case d_Family_word => k_is)
    (case k_Family_word => k_is)
    (case x_Family_length => k_is)
    (case i_Family_length => k_is)
    (case l_Family_length => k_is)
    (case d_Family_length => k_is)
    (case k_Family_length => k_is)
    (case x_Family_of_length => k_is)
    (case i_Family_of_length => k_is)
    (case l_Family_of_length => k_is)
    (case d_Family_of_length => k_is)
    (case k_Family_of_length => k_is)
    (case x_family_of => k_is)
    (case l_family_of => k_is)
    (case d_family_of => k_is)
    (case k_family_of => k_is)
    (case x_same_family => k_is)
    (case l_same_family => k_is)
    (case d_same_family => k_is)
    (case k_same_family => k_is)
    (case x_first_unlike => k_is)
    (case l_first_unlike => k_is)
    (case d_first_unlike => k_is)
    (case k_first_unlike => k_is)
    (case x__law_number => k_is)
    (case l__law_number => k_is)
    (case d__law_number => k_is)
    (case k__law_number => k_is)
    (case x__law_take => k_is)
    (case l__law_take => k_is)
    (case d__law_take => k_is)
    (case k__law_take => k_is)
    (case x__law_pick => k_is)
    (case l__law_pick => k_is)
    (case d__law_pick => k_is)
    (case k__law_pick => k_is)
    (case x__law_small_word => k_is)
    (case l__law_small_word => k_is)
    (case d__law_small_word => k_is)
    (case k__law_small_word => k_is)
    (case x__law_is_power => k_is)
    (case l__law_is_power => k_is)
    (case d__law_is_power => k_is)
    (case k__law_is_power => k_is)
    (case x__law_other => k_is)
    (case l__law_other => k_is)
    (case d__law_other => k_is)
    (case k__law_other => k_is)
    (case x_law => k_is)
    (case l_law => k_is)
    (case d_law => k_is)
    (case k_law => k_is)
end
