import PyProof.Rows.All
import KE.OsRunLaw
import PySem.Challenge.RW_allstitches_k73_whole_grades
import Wide.All
import OpenK.AllK
import Wide.FinOn
import HandS.ForMost
import HandS.TupMul
import HandS.TupAny
import HandS.Style
import HandS.IsInst
import HandS.Zip
import HandS.Conv
import HandS.More
import HandS.Flow
import HandS.Exc
import HandS.ExcOwn
import HandS.TryOnly
import HandS.Lambda
import HandS.ExcCtx
import HandS.SuiteRaise
import HandS.ExcInitHot
import KE.KDictWalk
import HandS.HeadHook3
import KE.KRevSl
import HandS.SortInts
import HandS.Property
import KE.KOpsOwn
import HandS.Records
import HandS.DictComp
import HandS.ExcIs
import HandS.EndTab
import HandS.NestedK
import KE.KMinKey
import HandS.SortKw
import HandS.Deep
import KE.GoesEnum
import HandS.SetFor
import HandS.TupSets
import KE.DataMinMax
import HandS.CallSlots
import HandS.Defaults
import KE.KMathG
import Flt.RightSqrt
import KE.KExcSuper
import HandS.ExcInit
import HandS.ExcField
import HandS.TryMany
import HandS.Iter
import KE.KPairComp
import HandS.SetBool
import HandS.Sort
import KE.KEqDict

section
set_option Elab.async false
set_option linter.all false
set_option autoImplicit false
set_option maxRecDepth 100000
set_option maxHeartbeats 4000000
/-! the head of the law's text, by one kernel run -/
namespace Hd
open PySem PySem.W PySem.Calls PyProof.Rows
abbrev R : PySem.W.OpenRow := PySem.W.OpenLaw.row PySem.Challenge.rw_allstitches_k73_whole_grades
abbrev q : Program := PySem.W.view R.prog [33]
def nm0 : List PySem.Str := ["StitchError", "BadTable", "is_number", "MOST_BASE", "MOST_RISE", "is_line", "worth", "MOST_SIZE", "MOST_WANTED", "check_wanted", "is_fraction", "is_less", "distance", "greatest", "Grade", "are_sizes", "extremes", "rest_of", "nearest_base", "grade", "far_by", "_law_number", "_law_take", "_law_pick", "_law_far", "_law_less", "_law_least"]
def nm : List PySem.Str := nm0
end Hd
local macro_rules
  | `(tactic| o_head $H) => do
    let hl := Lean.mkIdent `hl
    let hw := Lean.mkIdent `hw
    let hc := Lean.mkIdent `hc
    `(tactic| refine PySem.W.holds_open (q := Hd.q) (loose := Hd.nm) (Xt := fun s => PySem.W.xlAt Hd.q [] s && PySem.W.recOk (PySem.W.RowW.records (PySem.W.OpenRow.toRowW Hd.R)) s) (XP := PySem.W.XL Hd.q []) (Yf := PySem.W.Hook.obs $H) (Ya := PySem.W.Hook.val $H) (YP := PySem.W.Hook.says $H) (N := 40000) ?$hl (PySem.W.Hook.of $H) (PySem.W.Hook.keeps $H) (fun s e => PySem.W.xl_of s (Bool.and_eq_true_iff.mp e).1) PySem.W.XL.keeps (by rfl) (by rfl) (by rfl) (fun s e => PySem.W.recFacts_of (Bool.and_eq_true_iff.mp e).2) (by rfl) (by first | assumption | decide +kernel) (by decide +kernel) ⟨rfl, rfl, rfl, rfl, rfl, by decide +kernel⟩ ?$hw ?$hc)
/- a lemma of no use but this: k_head writes the head's objects out as definitions, which the two runs below are told with -/
open PySem PySem.W PyProof.Rows in
set_option maxRecDepth 100000 in
set_option maxHeartbeats 0 in
theorem Hd.pre (no : False) : PySem.Challenge.rw_allstitches_k73_whole_grades.Holds := by
  w_on; o_law; k_head
  all_goals exact no.elim
namespace Hd
open PySem PySem.W PySem.Calls PyProof.Rows
noncomputable def ads : List Addr := (Hd.pre.heap_39 (PySem.W.aWorld 1).params).foldr (fun x r => x.1 :: r) []
theorem ads_eq (P : Params) : ads = (Hd.pre.heap_39 P).map (·.1) := by kernel_rfl
abbrev Run (w : World) (os : OsState) : Prop := (HeadRun.endF (HeadRun.stepQ (HeadRun.denQ HeadRun.tabQ) R.prog w) 30000 R.prog w os).map (fun s => (HeadRun.looksF R.prog (boot_heap w.params) s.abs, HeadRun.seenQ q nm (importedModules R.prog.main.body) (fun s => xlAt q [] s && recOk (RowW.records (OpenRow.toRowW R)) s) s.abs, ads.map (HeadRun.getT s))) = some (true, openGood q nm, (Hd.pre.heap_39 w.params).map fun x => some x.2)
set_option maxHeartbeats 0 in
theorem run_false (w : World) (os : OsState) : Run (w.withFollow "special-get-raises" false) os := by kernel_rfl
set_option maxHeartbeats 0 in
theorem run_true (w : World) (os : OsState) : Run (w.withFollow "special-get-raises" true) os := by kernel_rfl
theorem run (w : World) : ∀ os : OsState, Run w os := PySem.W.byRow2 "special-get-raises" (P := fun w => ∀ os : OsState, Run w os) run_false run_true w
end Hd
end

section
set_option Elab.async false
set_option linter.all false
set_option autoImplicit false
set_option maxRecDepth 100000
/-! A data layer over the hand layer: values as plain data, environments as lists of slots, each def as a plain function. -/
namespace DL
open PySem PySem.Spec L2

/-- a value with all that hangs on it -/
inductive D where
  | non | bl (b : Bool) | int (i : Int) | str (x : Str)
  | tup (xs : List D) | lst (xs : List D)
  | dic (ks : List Key) (vs : List D)
  | dit (ks : List (List Key)) (vs : List D)
  | obj (c : Nat) (ks : List Str) (vs : List D)
  | drw | scr
  | rng (lo hi : Int) | odd (b : Bool) (d : D)

/-- the classes' addresses, the script -/
structure Wd where
  cl : Nat → Addr
  ns : List Int
  tb : List (Addr × Str)
  /-- whether what is raised has no context -/
  md : Bool := false

/-- the dict at a has one entry, with a bool for its key -/
def oddP (a : Addr) (b : Bool) (v : V) : Heap → Prop := fun h => (a == sysModules) = false ∧ ∃ (u : Value) (ep : Nat), RelV v u ∧ h.DictRaw a #[⟨hashInt (if b = true then 1 else 0), .bool b, u⟩] ep
/-- a thing that stands locked -/
def Fz (F : Hp) (a : Addr) (u : HO) : Prop := ∃ o, F a = some (.frz o u)
theorem Fz.rd {F : Hp} {a : Addr} {u : HO} (h : Fz F a u) : Rd F a u := Or.inr h
mutual
inductive Den (K : PySem.W.Frag) (W : Wd) (dr : Option Addr) (F : Hp) : V → D → Prop
  | non : Den K W dr F .non .non
  | bl (b : Bool) : Den K W dr F (.bl b) (.bl b)
  | int (i : Int) : Den K W dr F (.int i) (.int i)
  | str (x : Str) : Den K W dr F (.str x) (.str x)
  | tup {a : Addr} {vs : List V} {ds : List D} : SqT K F a vs → Dens K W dr F vs ds → Den K W dr F (.ref a) (.tup ds)
  | lst {a : Addr} {vs : List V} {ds : List D} : F a = some (.lst vs) → Dens K W dr F vs ds → Den K W dr F (.ref a) (.lst ds)
  | scr {a : Addr} : SqL K F a (W.ns.map V.int) → Den K W dr F (.ref a) .scr
  | dic {a : Addr} {ks : List Key} {vs : List V} {ds : List D} : ks.length = vs.length → Fz F a (.dK (ks.zip vs)) → Dens K W dr F vs ds → Den K W dr F (.ref a) (.dic ks ds)
  | dit {a : Addr} {ks : List (List Key)} {vs : List V} {ds : List D} : ks.length = vs.length → Fz F a (.dT (ks.zip vs)) → Dens K W dr F vs ds → Den K W dr F (.ref a) (.dit ks ds)
  | obj {a dx : Addr} {c : Nat} {ks : List Str} {vs : List V} {ds : List D} : ks.length = vs.length → F a = some (.ins (W.cl c) dx (ks.zip vs)) → Dens K W dr F vs ds → Den K W dr F (.ref a) (.obj c ks ds)
  | drw {a : Addr} : dr = some a → Den K W dr F (.ref a) .drw
  | rng {a : Addr} {lo hi : Int} : F a = some (.rng lo hi) → Den K W dr F (.ref a) (.rng lo hi)
  | odd {a : Addr} {b : Bool} {v : V} {d : D} : Fz F a (.ext (oddP a b v)) → Den K W dr F v d → Den K W dr F (.ref a) (.odd b d)
inductive Dens (K : PySem.W.Frag) (W : Wd) (dr : Option Addr) (F : Hp) : List V → List D → Prop
  | nil : Dens K W dr F [] []
  | cons {v : V} {vs : List V} {d : D} {ds : List D} : Den K W dr F v d → Dens K W dr F vs ds → Dens K W dr F (v :: vs) (d :: ds)
end

/-- F is part of H -/
def Sub (F H : Hp) : Prop := ∀ a o, F a = some o → H a = some o
theorem Sub.refl (F : Hp) : Sub F F := fun _ _ h => h
theorem Sub.trans {F G H : Hp} (a : Sub F G) (b : Sub G H) : Sub F H := fun x o h => b x o (a x o h)
theorem Sub.rd {F G : Hp} (s : Sub F G) {a : Addr} {u : HO} (h : Rd F a u) : Rd G a u := by
  rcases h with h | ⟨o, h⟩
  · exact .inl (s _ _ h)
  · exact .inr ⟨o, s _ _ h⟩
theorem Sub.fz {F G : Hp} (s : Sub F G) {a : Addr} {u : HO} (h : Fz F a u) : Fz G a u := h.imp fun _ q => s _ _ q
theorem Sub.sqL {K : PySem.W.Frag} {F G : Hp} (s : Sub F G) {a : Addr} {xs : List V} (h : SqL K F a xs) : SqL K G a xs := h.imp s.rd id
theorem Sub.sqT {K : PySem.W.Frag} {F G : Hp} (s : Sub F G) {a : Addr} {xs : List V} (h : SqT K F a xs) : SqT K G a xs := h.imp s.rd id
theorem Sub.new {F H : Hp} (s : Sub F H) {p : Addr} {o : HO} (hp : H p = none) : Sub F (upd F p o) := fun a u h => by
  have hF : F p = none := by
    cases e : F p with
    | none => rfl
    | some z => rw [s _ _ e] at hp; cases hp
  rw [upd_ne (ne_of_none h hF)]
  exact h

section
variable {K : PySem.W.Frag} {W : Wd} {dr dr' : Option Addr} {F G : Hp}
mutual
theorem Den.mono (s : Sub F G) (e : ∀ a, dr = some a → dr' = some a) : ∀ {v : V} {d : D}, Den K W dr F v d → Den K W dr' G v d
  | _, _, .non => .non
  | _, _, .bl b => .bl b
  | _, _, .int i => .int i
  | _, _, .str x => .str x
  | _, _, .tup h r => .tup (s.sqT h) (Dens.mono s e r)
  | _, _, .lst h r => .lst (s _ _ h) (Dens.mono s e r)
  | _, _, .scr h => .scr (s.sqL h)
  | _, _, .dic l h r => .dic l (s.fz h) (Dens.mono s e r)
  | _, _, .dit l h r => .dit l (s.fz h) (Dens.mono s e r)
  | _, _, .obj l h r => .obj l (s _ _ h) (Dens.mono s e r)
  | _, _, .drw h => .drw (e _ h)
  | _, _, .rng h => .rng (s _ _ h)
  | _, _, .odd h r => .odd (s.fz h) (Den.mono s e r)
theorem Dens.mono (s : Sub F G) (e : ∀ a, dr = some a → dr' = some a) : ∀ {vs : List V} {ds : List D}, Dens K W dr F vs ds → Dens K W dr' G vs ds
  | _, _, .nil => .nil
  | _, _, .cons h r => .cons (Den.mono s e h) (Dens.mono s e r)
end
theorem Dens.length : ∀ {vs : List V} {ds : List D}, Dens K W dr F vs ds → vs.length = ds.length
  | _, _, .nil => rfl
  | _, _, .cons _ r => by simp [Dens.length r]
theorem Dens.get : ∀ {vs : List V} {ds : List D} {i : Nat} {d : D}, Dens K W dr F vs ds → ds[i]? = some d → ∃ v, vs[i]? = some v ∧ Den K W dr F v d
  | _, _, _, _, .nil, e => by simp at e
  | _, _, 0, _, .cons h _, e => by simp at e; subst e; exact ⟨_, rfl, h⟩
  | _, _, i + 1, _, .cons _ r, e => by
    obtain ⟨v, h1, h2⟩ := Dens.get (i := i) r (by simpa using e)
    exact ⟨v, by simpa using h1, h2⟩
theorem Dens.append : ∀ {vs us : List V} {ds es : List D}, Dens K W dr F vs ds → Dens K W dr F us es → Dens K W dr F (vs ++ us) (ds ++ es)
  | _, _, _, _, .nil, s => s
  | _, _, _, _, .cons h r, s => .cons h (Dens.append r s)
theorem Dens.drop : ∀ {vs : List V} {ds : List D} (n : Nat), Dens K W dr F vs ds → Dens K W dr F (vs.drop n) (ds.drop n)
  | _, _, 0, r => r
  | _, _, _ + 1, .nil => .nil
  | _, _, n + 1, .cons _ r => Dens.drop n r
theorem Dens.rep {vs : List V} {ds : List D} (h : Dens K W dr F vs ds) : ∀ k : Nat, Dens K W dr F (List.replicate k vs).flatten (List.replicate k ds).flatten
  | 0 => .nil
  | k + 1 => by
    rw [List.replicate_succ, List.replicate_succ, List.flatten_cons, List.flatten_cons]
    exact h.append (Dens.rep h k)
theorem Dens.set : ∀ {vs : List V} {ds : List D} {v : V} {d : D} (i : Nat), Dens K W dr F vs ds → Den K W dr F v d → Dens K W dr F (vs.set i v) (ds.set i d)
  | _, _, _, _, _, .nil, _ => .nil
  | _, _, _, _, 0, .cons _ r, h => .cons h r
  | _, _, _, _, i + 1, .cons q r, h => .cons q (Dens.set i r h)
end

/-! ### computations -/
/-- what is raised: its class, its fields -/
structure Xc where
  c : Nat
  ks : List Str
  vs : List D
abbrev M (α : Type) := Int → Option (Except Xc α × Int)
def M.pure {α : Type} (a : α) : M α := fun n => some (.ok a, n)
def M.bind {α β : Type} (a : M α) (k : α → M β) : M β := fun n => match a n with
  | none => none
  | some (.ok x, n1) => k x n1
  | some (.error e, n1) => some (.error e, n1)
def M.opt {α : Type} (o : Option α) : M α := fun n => match o with
  | none => none
  | some a => some (.ok a, n)
def M.map {α β : Type} (f : α → β) (a : M α) : M β := M.bind a fun x => M.pure (f x)
theorem M.bind_ok {α β : Type} {a : M α} {k : α → M β} {n n2 : Int} {y : β} (h : M.bind a k n = some (.ok y, n2)) : ∃ x n1, a n = some (.ok x, n1) ∧ k x n1 = some (.ok y, n2) := by
  unfold M.bind at h
  split at h
  · cases h
  · exact ⟨_, _, ‹_›, h⟩
  · cases h
theorem M.opt_ok {α : Type} {o : Option α} {n n1 : Int} {x : α} (h : M.opt o n = some (.ok x, n1)) : o = some x ∧ n1 = n := by
  unfold M.opt at h
  split at h
  · cases h
  · cases h; exact ⟨rfl, rfl⟩
theorem M.pure_ok {α : Type} {a : α} {n n1 : Int} {x : α} (h : M.pure a n = some (.ok x, n1)) : a = x ∧ n1 = n := by
  unfold M.pure at h; cases h; exact ⟨rfl, rfl⟩
inductive Sl where
  | no | val (d : D) | own (d : D) | mob (d : D) (f : Str)
abbrev Env := List Sl
inductive Out where
  | nx (ρ : Env) | bk (ρ : Env) | ct (ρ : Env) | ret (d : D) | rn (ρ : Env)
abbrev EX := Env → M D
abbrev EXs := Env → M (List D)
abbrev TX := Env → M Bool
abbrev SX := Env → M Out

/-! ### what a state means -/
/-- a def's run: the draw's cell, the script's address, the heap and the known part at the entry, what may be changed besides -/
structure Fr where
  dr : Option Addr
  sa : Addr
  H0 : Hp
  F0 : Hp
  ex : Addr → Prop

/-- what may be changed, at a -/
def MDen (K : PySem.W.Frag) (W : Wd) (dr : Option Addr) (F H : Hp) (a : Addr) : D → Prop
  | .lst ds => ∃ vs, H a = some (.lst vs) ∧ Dens K W dr F vs ds
  | .dic ks ds => ∃ vs, ks.length = vs.length ∧ H a = some (.dK (ks.zip vs)) ∧ Dens K W dr F vs ds
  | .dit ks ds => ∃ vs, ks.length = vs.length ∧ H a = some (.dT (ks.zip vs)) ∧ Dens K W dr F vs ds
  | .obj c ks ds => ∃ dx vs, ks.length = vs.length ∧ H a = some (.ins (W.cl c) dx (ks.zip vs)) ∧ Dens K W dr F vs ds
  | _ => False
theorem MDen.mono {K : PySem.W.Frag} {W : Wd} {dr : Option Addr} {F F' H H' : Hp} {a : Addr} {d : D} (s : Sub F F') (h : ∀ o, H a = some o → H' a = some o) (m : MDen K W dr F H a d) : MDen K W dr F' H' a d := by
  cases d with
  | lst ds => obtain ⟨vs, e, r⟩ := m; exact ⟨vs, h _ e, r.mono s fun _ z => z⟩
  | dic ks ds => obtain ⟨vs, l, e, r⟩ := m; exact ⟨vs, l, h _ e, r.mono s fun _ z => z⟩
  | dit ks ds => obtain ⟨vs, l, e, r⟩ := m; exact ⟨vs, l, h _ e, r.mono s fun _ z => z⟩
  | obj c ks ds => obtain ⟨dx, vs, l, e, r⟩ := m; exact ⟨dx, vs, l, h _ e, r.mono s fun _ z => z⟩
  | non => exact m.elim
  | bl _ => exact m.elim
  | int _ => exact m.elim
  | str _ => exact m.elim
  | tup _ => exact m.elim
  | drw => exact m.elim
  | scr => exact m.elim
  | rng _ _ => exact m.elim
  | odd _ _ => exact m.elim
theorem MDen.there {K : PySem.W.Frag} {W : Wd} {dr : Option Addr} {F H : Hp} {a : Addr} {d : D} (m : MDen K W dr F H a d) : ∃ o, H a = some o := by
  cases d with
  | lst ds => obtain ⟨vs, e, r⟩ := m; exact ⟨_, e⟩
  | dic ks ds => obtain ⟨vs, l, e, r⟩ := m; exact ⟨_, e⟩
  | dit ks ds => obtain ⟨vs, l, e, r⟩ := m; exact ⟨_, e⟩
  | obj c ks ds => obtain ⟨dx, vs, l, e, r⟩ := m; exact ⟨_, e⟩
  | non => exact m.elim
  | bl _ => exact m.elim
  | int _ => exact m.elim
  | str _ => exact m.elim
  | tup _ => exact m.elim
  | drw => exact m.elim
  | scr => exact m.elim
  | rng _ _ => exact m.elim
  | odd _ _ => exact m.elim

/-- no code object's table; a table or something else that stands aside -/
def NT (o : HO) : Prop := ∀ ps, o ≠ .tbl ps
def Sd (o : HO) : Prop := (∃ ps, o = .tbl ps) ∨ ∃ φ, o = .ext φ
def mask (H : Hp) : Hp := fun a => match H a with
  | some (.tbl _) => none
  | o => o
theorem mask_of {H : Hp} {a : Addr} {o : HO} (h : H a = some o) (n : NT o := by (intro _ z; cases z)) : mask H a = some o := by
  unfold mask
  rw [h]
  cases o <;> first | rfl | exact absurd rfl (n _)
theorem of_mask {H : Hp} {a : Addr} {o : HO} (h : mask H a = some o) : H a = some o ∧ NT o := by
  unfold mask at h
  split at h
  · cases h
  · rename_i x
    refine ⟨h, fun ps e => ?_⟩
    subst e
    exact x ps h
theorem sd_no {H : Hp} {p : Addr} (h : H p = none) : ∀ u, H p = some u → ¬ Sd u := fun u z => by rw [h] at z; cases z
theorem sd_of {H : Hp} {p : Addr} {o : HO} (h : H p = some o) (n : ¬ Sd o := by (rintro (⟨_, z⟩ | ⟨_, z⟩) <;> cases z)) : ∀ u, H p = some u → ¬ Sd u := fun u z => by rw [h] at z; cases z; exact n
theorem tabs_keep {T : List (Addr × Str)} {H H' : Hp} (t : LamX.Tabs T H) (k : ∀ a o, H a = some o → Sd o → H' a = some o) : LamX.Tabs T H' := fun p hp => by
  obtain ⟨ps, h1, h2, h3⟩ := t p hp
  refine ⟨ps, k _ _ h1 (.inl ⟨_, rfl⟩), h2, fun pos cv e => ?_⟩
  obtain ⟨c, e1, e2⟩ := h3 pos cv e
  exact ⟨c, e1, k _ _ e2 (.inr ⟨_, rfl⟩)⟩
theorem MDen.pl {K : PySem.W.Frag} {W : Wd} {dr : Option Addr} {F H : Hp} {a : Addr} {d : D} (m : MDen K W dr F H a d) {o : HO} (h : H a = some o) : NT o ∧ ¬ Sd o := by
  have go : ∀ u : HO, H a = some u → NT u → (∀ φ, u ≠ .ext φ) → NT o ∧ ¬ Sd o := fun u e n x => by
    rw [h] at e
    cases e
    exact ⟨n, fun z => by
      rcases z with ⟨ps, z⟩ | ⟨φ, z⟩
      · exact n _ z
      · exact x _ z⟩
  cases d with
  | lst ds => obtain ⟨vs, e, r⟩ := m; exact go _ e (fun _ z => by cases z) fun _ z => by cases z
  | dic ks ds => obtain ⟨vs, l, e, r⟩ := m; exact go _ e (fun _ z => by cases z) fun _ z => by cases z
  | dit ks ds => obtain ⟨vs, l, e, r⟩ := m; exact go _ e (fun _ z => by cases z) fun _ z => by cases z
  | obj c ks ds => obtain ⟨dx, vs, l, e, r⟩ := m; exact go _ e (fun _ z => by cases z) fun _ z => by cases z
  | non => exact m.elim
  | bl _ => exact m.elim
  | int _ => exact m.elim
  | str _ => exact m.elim
  | tup _ => exact m.elim
  | drw => exact m.elim
  | scr => exact m.elim
  | rng _ _ => exact m.elim
  | odd _ _ => exact m.elim
/-- the fields of an object that has a list of its own, at b, in its field f -/
inductive Fens (K : PySem.W.Frag) (W : Wd) (dr : Option Addr) (F : Hp) (b : Addr) (es : List D) (f : Str) : List Str → List V → List D → Prop
  | nil : Fens K W dr F b es f [] [] []
  | own {ks : List Str} {vs : List V} {ds : List D} : Fens K W dr F b es f ks vs ds → Fens K W dr F b es f (f :: ks) (.ref b :: vs) (.lst es :: ds)
  | den {k : Str} {v : V} {d : D} {ks : List Str} {vs : List V} {ds : List D} : k ≠ f → Den K W dr F v d → Fens K W dr F b es f ks vs ds → Fens K W dr F b es f (k :: ks) (v :: vs) (d :: ds)
theorem Fens.mono {K : PySem.W.Frag} {W : Wd} {dr : Option Addr} {F F' : Hp} {b : Addr} {es : List D} {f : Str} (s : Sub F F') : ∀ {ks : List Str} {vs : List V} {ds : List D}, Fens K W dr F b es f ks vs ds → Fens K W dr F' b es f ks vs ds
  | _, _, _, .nil => .nil
  | _, _, _, .own h => .own (Fens.mono s h)
  | _, _, _, .den n d h => .den n (d.mono s fun _ z => z) (Fens.mono s h)
/-- an object at a with a list of its own at b, both may be changed -/
def MobD (K : PySem.W.Frag) (W : Wd) (dr : Option Addr) (F H : Hp) (a b : Addr) (o : D) (f : Str) : Prop :=
  F a = none ∧ F b = none ∧ dr ≠ some a ∧ dr ≠ some b ∧ a ≠ b ∧ ∃ c ks ds dx vs us es, o = D.obj c ks ds ∧ ks.length = vs.length ∧ H a = some (.ins (W.cl c) dx (ks.zip vs)) ∧ Fens K W dr F b es f ks vs ds ∧ H b = some (.lst us) ∧ Dens K W dr F us es ∧ f ∈ ks
theorem MobD.keep {K : PySem.W.Frag} {W : Wd} {dr : Option Addr} {F F' H H' : Hp} {a b : Addr} {o : D} {f : Str} (m : MobD K W dr F H a b o f) (s : Sub F F') (ha : ∀ u, H a = some u → NT u → H' a = some u) (hb : ∀ u, H b = some u → NT u → H' b = some u) (fa : F' a = none) (fb : F' b = none) : MobD K W dr F' H' a b o f := by
  obtain ⟨m1, m2, m3, m4, m5, c, ks, ds, dx, vs, us, es, m6, m7, m8, m9, m10, m11, m12⟩ := m
  exact ⟨fa, fb, m3, m4, m5, c, ks, ds, dx, vs, us, es, m6, m7, ha _ m8 (fun _ z => by cases z), m9.mono s, hb _ m10 (fun _ z => by cases z), m11.mono s fun _ z => z, m12⟩
structure Core (K : PySem.W.Frag) (W : Wd) (fr : Fr) (F H : Hp) (n : Int) : Prop where
  sub : Sub F H
  base : ∀ a o, fr.H0 a = some o → fr.dr ≠ some a → ¬ fr.ex a → H a = some o
  f0 : Sub fr.F0 F
  new : ∀ a o, fr.H0 a = some o → fr.F0 a = none → F a = none
  there : ∀ a o, fr.H0 a = some o → ∃ o', H a = some o' ∧ NT o'
  draw : ∀ a, fr.dr = some a → F a = none ∧ H a = some (.lst [.ref fr.sa, .int n]) ∧ SqL K F fr.sa (W.ns.map V.int)
  ntF : ∀ a o, F a = some o → NT o
  tabs : LamX.Tabs W.tb H

/-- an instance -/
def isO : D → Bool | .obj _ _ _ => true | _ => false
structure Slots (K : PySem.W.Frag) (W : Wd) (fr : Fr) (F H : Hp) (σ : St) (ρ : Env) (ad : Nat → Addr) : Prop where
  len : σ.length = ρ.length
  val : ∀ (i : Nat) (d : D), ρ[i]? = some (Sl.val d) → ∃ v, σ[i]? = some (some v) ∧ Den K W fr.dr F v d
  own : ∀ (i : Nat) (d : D), ρ[i]? = some (Sl.own d) → σ[i]? = some (some (.ref (ad i))) ∧ F (ad i) = none ∧ fr.dr ≠ some (ad i) ∧ (fr.H0 (ad i) = none ∨ fr.ex (ad i)) ∧ MDen K W fr.dr F H (ad i) d ∧ ((isO d = true ∧ fr.ex (ad i)) ∨ (isO d = false ∧ fr.H0 (ad i) = none))
  inj : ∀ (i j : Nat) (d e : D), ρ[i]? = some (Sl.own d) → ρ[j]? = some (Sl.own e) → ad i = ad j → i = j
  mob : ∀ (i : Nat) (o : D) (f : Str), ρ[i]? = some (Sl.mob o f) → i = 0 ∧ ∃ a b, σ[0]? = some (some (.ref a)) ∧ MobD K W fr.dr F H a b o f ∧ ((fr.ex a ∧ fr.ex b) ∧ ∀ x, fr.ex x → x = a ∨ x = b) ∧ ((∃ C dx fs, fr.H0 a = some (.ins C dx fs)) ∧ ∃ us, fr.H0 b = some (.lst us)) ∧ ∀ (j : Nat) (d : D), ρ[j]? = some (Sl.own d) → ad j ≠ a ∧ ad j ≠ b

structure Rel (K : PySem.W.Frag) (W : Wd) (fr : Fr) (F H : Hp) (σ : St) (ρ : Env) (n : Int) : Prop where
  core : Core K W fr F H n
  slots : ∃ ad, Slots K W fr F H σ ρ ad

section
variable {K : PySem.W.Frag} {W : Wd} {fr : Fr} {F F' H H' : Hp} {σ σ' : St} {ρ ρ' : Env} {n n' : Int}
theorem Core.noF (c : Core K W fr F H n) {p : Addr} (hp : H p = none) : F p = none := by
  cases e : F p with
  | none => rfl
  | some z => rw [c.sub _ _ e] at hp; cases hp
theorem Core.ndr (c : Core K W fr F H n) {p : Addr} (hp : H p = none) : fr.dr ≠ some p := fun e => by
  rw [(c.draw p e).2.1] at hp; cases hp
theorem Core.noH0 (c : Core K W fr F H n) {p : Addr} (hp : H p = none) : fr.H0 p = none := by
  cases e : fr.H0 p with
  | none => rfl
  | some z => obtain ⟨o, h, _⟩ := c.there _ _ e; rw [h] at hp; cases hp
/-- a new object, known from now on (k) or not -/
theorem Core.fresh (c : Core K W fr F H n) {p : Addr} {o : HO} (hp : H p = none) (ho : NT o := by (intro _ h; cases h)) : Core K W fr (upd F p o) (upd H p o) n where
  sub := fun a u h => by
    by_cases e : a = p
    · subst e; rw [upd_same] at h ⊢; exact h
    · rw [upd_ne e] at h ⊢; exact c.sub _ _ h
  base := fun a u h1 h2 h3 => by
    have h := c.base a u h1 h2 h3
    rw [upd_ne (ne_of_none h hp)]; exact h
  f0 := c.f0.trans (c.sub.new hp)
  new := fun a u h1 h2 => by
    have e : a ≠ p := ne_of_none h1 (c.noH0 hp)
    rw [upd_ne e]; exact c.new a u h1 h2
  there := fun a u h => by
    obtain ⟨o', q, nt⟩ := c.there a u h
    exact ⟨o', by rw [upd_ne (ne_of_none q hp)]; exact q, nt⟩
  draw := fun a e => by
    obtain ⟨h1, h2, h3⟩ := c.draw a e
    have q : a ≠ p := ne_of_none h2 hp
    exact ⟨by rw [upd_ne q]; exact h1, by rw [upd_ne q]; exact h2, (c.sub.new hp).sqL h3⟩
  ntF := fun a u h => by
    by_cases e : a = p
    · subst e; rw [upd_same] at h; cases h; exact ho
    · rw [upd_ne e] at h; exact c.ntF a u h
  tabs := tabs_keep c.tabs fun a u h _ => by rw [upd_ne (ne_of_none h hp)]; exact h
/-- a new object, not known -/
theorem Core.fresh' (c : Core K W fr F H n) {p : Addr} {o : HO} (hp : H p = none) : Core K W fr F (upd H p o) n where
  sub := fun a u h => by
    have q := c.sub _ _ h
    rw [upd_ne (ne_of_none q hp)]; exact q
  base := fun a u h1 h2 h3 => by
    have h := c.base a u h1 h2 h3
    rw [upd_ne (ne_of_none h hp)]; exact h
  f0 := c.f0
  new := c.new
  there := fun a u h => by
    obtain ⟨o', q, nt⟩ := c.there a u h
    exact ⟨o', by rw [upd_ne (ne_of_none q hp)]; exact q, nt⟩
  draw := fun a e => by
    obtain ⟨h1, h2, h3⟩ := c.draw a e
    have q : a ≠ p := ne_of_none h2 hp
    exact ⟨h1, by rw [upd_ne q]; exact h2, h3⟩
  ntF := c.ntF
  tabs := tabs_keep c.tabs fun a u h _ => by rw [upd_ne (ne_of_none h hp)]; exact h
/-- the run that begins where another one stands -/
def Fr.at (fr : Fr) (F H : Hp) : Fr := ⟨fr.dr, fr.sa, mask H, F, fun _ => False⟩
theorem Core.at (c : Core K W fr F H n) : Core K W (fr.at F H) F H n := ⟨c.sub, fun _ _ h _ _ => (of_mask h).1, Sub.refl _, fun _ _ _ h => h, fun _ o h => ⟨o, of_mask h⟩, c.draw, c.ntF, c.tabs⟩
theorem Core.back (c : Core K W fr F H n) (d : Core K W (fr.at F H) F' H' n') : Core K W fr F' H' n' where
  sub := d.sub
  base := fun a o h1 h2 h3 => by
    have h := c.base a o h1 h2 h3
    obtain ⟨o', q, nt⟩ := c.there a o h1
    rw [h] at q; cases q
    exact d.base a o (mask_of h nt) h2 fun z => z
  f0 := c.f0.trans d.f0
  new := fun a o h1 h2 => by
    obtain ⟨o', q, nt⟩ := c.there a o h1
    exact d.new a o' (mask_of q nt) (c.new a o h1 h2)
  there := fun a o h => by
    obtain ⟨o', q, nt⟩ := c.there a o h
    exact d.there a o' (mask_of q nt)
  draw := d.draw
  ntF := d.ntF
  tabs := d.tabs
/-- the slots stand while what they lean on stands -/
theorem Slots.keep {ad : Nat → Addr} (s : Slots K W fr F H σ ρ ad) (c : Core K W fr F H n) (f : Sub F F') (h : ∀ a o, H a = some o → NT o → fr.dr ≠ some a → H' a = some o) (g : ∀ a o, H a = some o → NT o → F a = none → F' a = none) : Slots K W fr F' H' σ ρ ad where
  len := s.len
  val := fun i d e => by
    obtain ⟨v, h1, h2⟩ := s.val i d e
    exact ⟨v, h1, h2.mono f fun _ z => z⟩
  own := fun i d e => by
    obtain ⟨h1, h2, h3, h4, h5, h6⟩ := s.own i d e
    obtain ⟨o, q⟩ := h5.there
    exact ⟨h1, g _ _ q (h5.pl q).1 h2, h3, h4, h5.mono f fun o z => h _ o z (h5.pl z).1 h3, h6⟩
  inj := s.inj
  mob := fun i o p e => by
    obtain ⟨h1, a, b, h2, h3, h4, h5, h6⟩ := s.mob i o p e
    have m := h3
    obtain ⟨m1, m2, m3, m4, m5, c, ks, ds, dx, vs, us, es, m6, m7, m8, m9, m10, m11, m12⟩ := m
    exact ⟨h1, a, b, h2, h3.keep f (fun u q nt => h _ u q nt m3) (fun u q nt => h _ u q nt m4) (g _ _ m8 (fun _ z => by cases z) m1) (g _ _ m10 (fun _ z => by cases z) m2), h4, h5, h6⟩
theorem Rel.keep (r : Rel K W fr F H σ ρ n) (c : Core K W fr F' H' n') (f : Sub F F') (h : ∀ a o, H a = some o → NT o → fr.dr ≠ some a → H' a = some o) (g : ∀ a o, H a = some o → NT o → F a = none → F' a = none) : Rel K W fr F' H' σ ρ n' := by
  obtain ⟨ad, s⟩ := r.slots
  exact ⟨c, ad, s.keep r.core f h g⟩
theorem Rel.fresh (r : Rel K W fr F H σ ρ n) {p : Addr} {o : HO} (hp : H p = none) (ho : NT o := by (intro _ h; cases h)) : Rel K W fr (upd F p o) (upd H p o) σ ρ n :=
  r.keep (r.core.fresh hp ho) (r.core.sub.new hp) (fun a u h _ _ => by rw [upd_ne (ne_of_none h hp)]; exact h) fun a u h _ z => by rw [upd_ne (ne_of_none h hp)]; exact z
/-- behind a run that began here -/
theorem Rel.back (r : Rel K W fr F H σ ρ n) (d : Core K W (fr.at F H) F' H' n') : Rel K W fr F' H' σ ρ n' :=
  r.keep (r.core.back d) d.f0 (fun a o h nt z => d.base a o (mask_of h nt) z fun q => q) fun a o h nt z => d.new a o (mask_of h nt) z
end

/-! ### the judgements -/
theorem M.bind_err {α β : Type} {a : M α} {k : α → M β} {n n2 : Int} {z : Xc} (h : M.bind a k n = some (.error z, n2)) : a n = some (.error z, n2) ∨ ∃ x n1, a n = some (.ok x, n1) ∧ k x n1 = some (.error z, n2) := by
  unfold M.bind at h
  split at h
  · cases h
  · exact .inr ⟨_, _, ‹_›, h⟩
  · cases h; exact .inl ‹_›
theorem M.opt_err {α : Type} {o : Option α} {n n1 : Int} {z : Xc} (h : M.opt o n = some (.error z, n1)) : False := by
  unfold M.opt at h
  split at h <;> cases h
theorem M.pure_err {α : Type} {a : α} {n n1 : Int} {z : Xc} (h : M.pure a n = some (.error z, n1)) : False := by
  unfold M.pure at h; cases h
theorem M.bind_any {α β : Type} {a : M α} {k : α → M β} {n n2 : Int} {r : Except Xc β} (h : M.bind a k n = some (r, n2)) : (∃ z, a n = some (.error z, n2) ∧ r = .error z) ∨ ∃ x n1, a n = some (.ok x, n1) ∧ k x n1 = some (r, n2) := by
  unfold M.bind at h
  split at h
  · cases h
  · exact .inr ⟨_, _, ‹_›, h⟩
  · cases h; exact .inl ⟨_, ‹_›, rfl⟩
theorem M.pure_any {α : Type} {a : α} {n n1 : Int} {r : Except Xc α} (h : M.pure a n = some (r, n1)) : Except.ok a = r ∧ n1 = n := by
  unfold M.pure at h; cases h; exact ⟨rfl, rfl⟩
theorem M.opt_any {α : Type} {o : Option α} {n n1 : Int} {r : Except Xc α} (h : M.opt o n = some (r, n1)) : ∃ x, o = some x := by
  unfold M.opt at h
  split at h
  · cases h
  · exact ⟨_, rfl⟩
/-- what must not raise -/
def M.calm {α : Type} (a : M α) : M α := fun n => match a n with
  | some (.ok x, n1) => some (.ok x, n1)
  | _ => none
theorem M.calm_ok {α : Type} {a : M α} {n n1 : Int} {x : α} (h : M.calm a n = some (.ok x, n1)) : a n = some (.ok x, n1) := by
  unfold M.calm at h
  split at h
  · cases h; assumption
  · cases h
theorem M.calm_err {α : Type} {a : M α} {n n1 : Int} {z : Xc} (h : M.calm a n = some (.error z, n1)) : False := by
  unfold M.calm at h
  split at h <;> cases h
/-- an exception in the air that X takes -/
def TakesM : Bool → Cx → WX → Prop
  | false => L2.Takes
  | true => L2N.Takes
def CXm (b : Bool) (P : Program) (w : World) : CXT := match b with
  | false => L2.CX P w
  | true => L2N.CX P w
def Acc (b : Bool) (X : Cx) (cls : Value) (d : Option Addr) (σ : St) (H : Hp) : Prop := TakesM b X fun c d' σ' H' => c = cls ∧ d' = d ∧ σ' = σ ∧ H' = H
theorem takesAccF {X : Cx} : L2.Takes X (Acc false X) := fun u s' ⟨a, B, sI, pins, σ, H, cls, d, e, I, nb, up, sky, na, os, ag, w⟩ =>
  w u s' ⟨a, B, sI, pins, σ, H, cls, d, e, I, nb, up, sky, na, os, ag, rfl, rfl, rfl, rfl⟩
theorem takesAccT {X : Cx} : L2N.Takes X (Acc true X) := fun u s' ⟨a, B, sI, pins, σ, H, cls, d, e, I, nb, up, sky, na, os, ag, w⟩ =>
  w u s' ⟨a, B, sI, pins, σ, H, cls, d, e, I, nb, up, sky, na, os, ag, rfl, rfl, rfl, rfl⟩
theorem takesAcc {b : Bool} (h : b = false) {X : Cx} : L2.Takes X (Acc b X) := by
  subst h
  exact takesAccF
theorem TakesM.imp {b : Bool} {X : Cx} {W W' : WX} (t : TakesM b X W) (h : ∀ c d σ H, W' c d σ H → W c d σ H) : TakesM b X W' := by
  cases b
  · exact L2.Takes.imp t h
  · exact L2N.Takes.imp t h
theorem sky_imp {B : Heap} {l : List PySem.Env} {a : Addr} {Z Z' : Obj → Prop} {L : Addr} {h : Heap} (z : ∀ o, Z o → Z' o) (x : Sky B l a Z L h) : Sky B l a Z' L h := by
  rcases x with ⟨x1, x2, x3, oe, vs, x4, x5, x6, x7⟩ | x | x
  · exact .inl ⟨x1, x2, x3, oe, vs, x4, z _ x5, x6, x7⟩
  · exact .inr (.inl (L2H.flyingZ_imp z x))
  · exact .inr (.inr ⟨x.1, x.2.1, x.2.2.1, L2H.tracedZ_imp z x.2.2.2⟩)
theorem xe_of_N {X : Cx} {W : WX} {u : Value} {s' : Shared} (h : L2N.XE X W u s') : L2.XE X W u s' := by
  obtain ⟨a, B, sI, pins, σ, H, cls, d, e, I, nb, up, sky, na, os, ag, w⟩ := h
  exact ⟨a, B, sI, pins, σ, H, cls, d, e, I, nb, up, sky_imp (fun _ z => z.zc) sky, na, os, ag, w⟩
/-- what takes any exception takes one without a context -/
theorem TakesM.of {b : Bool} {X : Cx} {W : WX} (t : L2.Takes X W) : TakesM b X W := by
  cases b
  · exact t
  · exact fun u s' h => t u s' (xe_of_N h)
theorem Acc.ofM {b : Bool} {X : Cx} {Wt : WX} (tk : TakesM b X Wt) {cls : Value} {d : Option Addr} {σ : St} {H : Hp} (h : Wt cls d σ H) : Acc b X cls d σ H := tk.imp fun c d' σ' H' ⟨a, b, c', d''⟩ => by
  subst a b c' d''; exact h
theorem Acc.of {b : Bool} {X : Cx} {Wt : WX} (tk : L2.Takes X Wt) {cls : Value} {d : Option Addr} {σ : St} {H : Hp} (h : Wt cls d σ H) : Acc b X cls d σ H := Acc.ofM (.of tk) h
/-- an exception by its class and its fields -/
def XDen (K : PySem.W.Frag) (W : Wd) (dr : Option Addr) (F H : Hp) (z : Xc) (cls : Value) (d : Option Addr) : Prop :=
  cls = .ref (W.cl z.c) ∧ ((d = none ∧ z.ks = [] ∧ z.vs = []) ∨ ∃ a us, d = some a ∧ z.ks ≠ [] ∧ H a = some (.xd (z.ks.zip us)) ∧ z.ks.length = us.length ∧ Dens K W dr F us z.vs)
@[reducible] def Res {α : Type} (ok : α → Prop) (er : Xc → Prop) : Except Xc α → Prop
  | .ok x => ok x
  | .error z => er z
/-- what is wanted of an exception out of an expression; out of a statement -/
def KX (X : Cx) (W : Wd) (fr : Fr) (F : Hp) (σ : St) (ρ : Env) (n : Int) (z : Xc) : Prop := ∀ F' H' cls d, Rel X.K W fr F' H' σ ρ n → Sub F F' → XDen X.K W fr.dr F' H' z cls d → Acc W.md X cls d σ H'
def KS (X : Cx) (W : Wd) (fr : Fr) (F : Hp) (n : Int) (z : Xc) : Prop := ∀ F' H' σ' cls d, Core X.K W fr F' H' n → Sub F F' → XDen X.K W fr.dr F' H' z cls d → Acc W.md X cls d σ' H'
theorem KX.mono {X : Cx} {W : Wd} {fr : Fr} {F F1 : Hp} {σ : St} {ρ : Env} {n : Int} {z : Xc} (k : KX X W fr F σ ρ n z) (s : Sub F F1) : KX X W fr F1 σ ρ n z := fun F' H' cls d R s' x => k F' H' cls d R (s.trans s') x
theorem KS.mono {X : Cx} {W : Wd} {fr : Fr} {F F1 : Hp} {n : Int} {z : Xc} (k : KS X W fr F n z) (s : Sub F F1) : KS X W fr F1 n z := fun F' H' σ cls d R s' x => k F' H' σ cls d R (s.trans s') x
theorem KS.x {X : Cx} {W : Wd} {fr : Fr} {F : Hp} {σ : St} {ρ : Env} {n : Int} {z : Xc} (k : KS X W fr F n z) : KX X W fr F σ ρ n z := fun F' H' cls d R s' x => k F' H' σ cls d R.core s' x
def tD (X : Cx) (W : Wd) (f : EX) : TE := fun σ H Q => ∃ fr F ρ n r n', Rel X.K W fr F H σ ρ n ∧ f ρ n = some (r, n') ∧
  Res (fun d => ∀ F' H' v, Rel X.K W fr F' H' σ ρ n' → Sub F F' → Den X.K W fr.dr F' v d → Q v H') (KX X W fr F σ ρ n') r
def tDs (X : Cx) (W : Wd) (f : EXs) : TA := fun σ H Q => ∃ fr F ρ n r n', Rel X.K W fr F H σ ρ n ∧ f ρ n = some (r, n') ∧
  Res (fun ds => ∀ F' H' vs, Rel X.K W fr F' H' σ ρ n' → Sub F F' → Dens X.K W fr.dr F' vs ds → Q vs H') (KX X W fr F σ ρ n') r
def tT (X : Cx) (W : Wd) (f : TX) : TT := fun σ H Q => ∃ fr F ρ n r n', Rel X.K W fr F H σ ρ n ∧ f ρ n = some (r, n') ∧
  Res (fun b => ∀ F' H', Rel X.K W fr F' H' σ ρ n' → Sub F F' → Q b H') (KX X W fr F σ ρ n') r
def OutK (K : PySem.W.Frag) (W : Wd) (fr : Fr) (F : Hp) (E : Ends) : Out → Int → Prop
  | .nx ρ, n => ∀ F' H' σ', Rel K W fr F' H' σ' ρ n → Sub F F' → E.nx σ' H'
  | .bk ρ, n => ∀ F' H' σ', Rel K W fr F' H' σ' ρ n → Sub F F' → E.bk σ' H'
  | .ct ρ, n => ∀ F' H' σ', Rel K W fr F' H' σ' ρ n → Sub F F' → E.ct σ' H'
  | .ret d, n => ∀ F' H' v, Core K W fr F' H' n → Sub F F' → Den K W fr.dr F' v d → E.rt v H'
  | .rn ρ, n => ∀ F' H' σ', Rel K W fr F' H' σ' ρ n → Sub F F' → E.rt .non H'
def tS (X : Cx) (W : Wd) (g : SX) : TS := fun E σ H => ∃ fr F ρ n r n', Rel X.K W fr F H σ ρ n ∧ g ρ n = some (r, n') ∧ Res (fun o => OutK X.K W fr F E o n') (KS X W fr F n') r
theorem OutK.mono {K : PySem.W.Frag} {W : Wd} {fr : Fr} {F F1 : Hp} {E : Ends} (s : Sub F F1) : ∀ {o : Out} {n : Int}, OutK K W fr F E o n → OutK K W fr F1 E o n
  | .nx _, _, k => fun F' H' σ' r q => k F' H' σ' r (s.trans q)
  | .bk _, _, k => fun F' H' σ' r q => k F' H' σ' r (s.trans q)
  | .ct _, _, k => fun F' H' σ' r q => k F' H' σ' r (s.trans q)
  | .ret _, _, k => fun F' H' v c q => k F' H' v c (s.trans q)
  | .rn _, _, k => fun F' H' σ' r q => k F' H' σ' r (s.trans q)
/-- a statement's ends, from further on -/
theorem resS_mono {X : Cx} {W : Wd} {fr : Fr} {F F1 : Hp} {E : Ends} {n : Int} (s : Sub F F1) : ∀ {r : Except Xc Out}, Res (fun o => OutK X.K W fr F E o n) (KS X W fr F n) r → Res (fun o => OutK X.K W fr F1 E o n) (KS X W fr F1 n) r
  | .ok _, k => OutK.mono s k
  | .error _, k => KS.mono k s

abbrev PD (X : Cx) (W : Wd) (e : Expr) (f : EX) : Prop := PE X e (tD X W f)
abbrev PDs (X : Cx) (W : Wd) (es : List Expr) (f : EXs) : Prop := PA X es (tDs X W f)
abbrev PDT (X : Cx) (W : Wd) (e : Expr) (f : TX) : Prop := PT X e (tT X W f)
abbrev PDW (X : Cx) (W : Wd) (e : Expr) (f : TX) : Prop := PW X e (tT X W f)
abbrev PDS (X : Cx) (W : Wd) (s : Stmt) (g : SX) : Prop := PS X s (tS X W g)
abbrev PDSs (X : Cx) (W : Wd) (s : List Stmt) (g : SX) : Prop := PSs X s (tS X W g)
section
variable {X : Cx} {W : Wd} {fr : Fr} {F H : Hp} {σ : St} {ρ : Env} {n n' : Int} {z : Xc} {β : Type}
/-- an error of a part, or of what follows it -/
theorem Rel.dE {f : EX} {g : D → M β} {Q : VK} (R : Rel X.K W fr F H σ ρ n) (e : M.bind (f ρ) g n = some (.error z, n')) (k : KX X W fr F σ ρ n' z) (go : ∀ x n1 F1 H1 v, f ρ n = some (.ok x, n1) → g x n1 = some (.error z, n') → Rel X.K W fr F1 H1 σ ρ n1 → Sub F F1 → Den X.K W fr.dr F1 v x → Q v H1) : tD X W f σ H Q := by
  rcases M.bind_err e with e1 | ⟨x, n1, e1, h⟩
  · exact ⟨fr, F, ρ, n, .error z, n', R, e1, k⟩
  · exact ⟨fr, F, ρ, n, .ok x, n1, R, e1, fun F1 H1 v R1 s1 d1 => go x n1 F1 H1 v e1 h R1 s1 d1⟩
theorem Rel.dsE {f : EXs} {g : List D → M β} {Q : List V → Hp → Prop} (R : Rel X.K W fr F H σ ρ n) (e : M.bind (f ρ) g n = some (.error z, n')) (k : KX X W fr F σ ρ n' z) (go : ∀ x n1 F1 H1 v, f ρ n = some (.ok x, n1) → g x n1 = some (.error z, n') → Rel X.K W fr F1 H1 σ ρ n1 → Sub F F1 → Dens X.K W fr.dr F1 v x → Q v H1) : tDs X W f σ H Q := by
  rcases M.bind_err e with e1 | ⟨x, n1, e1, h⟩
  · exact ⟨fr, F, ρ, n, .error z, n', R, e1, k⟩
  · exact ⟨fr, F, ρ, n, .ok x, n1, R, e1, fun F1 H1 v R1 s1 d1 => go x n1 F1 H1 v e1 h R1 s1 d1⟩
theorem Rel.tE {f : TX} {g : Bool → M β} {Q : Bool → Hp → Prop} (R : Rel X.K W fr F H σ ρ n) (e : M.bind (f ρ) g n = some (.error z, n')) (k : KX X W fr F σ ρ n' z) (go : ∀ x n1 F1 H1, f ρ n = some (.ok x, n1) → g x n1 = some (.error z, n') → Rel X.K W fr F1 H1 σ ρ n1 → Sub F F1 → Q x H1) : tT X W f σ H Q := by
  rcases M.bind_err e with e1 | ⟨x, n1, e1, h⟩
  · exact ⟨fr, F, ρ, n, .error z, n', R, e1, k⟩
  · exact ⟨fr, F, ρ, n, .ok x, n1, R, e1, fun F1 H1 R1 s1 => go x n1 F1 H1 e1 h R1 s1⟩
theorem Rel.sE {f : SX} {g : Out → M β} {E : Ends} (R : Rel X.K W fr F H σ ρ n) (e : M.bind (f ρ) g n = some (.error z, n')) (k : KS X W fr F n' z) (go : ∀ x n1, f ρ n = some (.ok x, n1) → g x n1 = some (.error z, n') → OutK X.K W fr F E x n1) : tS X W f E σ H := by
  rcases M.bind_err e with e1 | ⟨x, n1, e1, h⟩
  · exact ⟨fr, F, ρ, n, .error z, n', R, e1, k⟩
  · exact ⟨fr, F, ρ, n, .ok x, n1, R, e1, go x n1 e1 h⟩
/-- one part, then an operator -/
theorem Rel.dE1 {α : Type} {f : EX} {g : D → Option α} {Q : VK} (R : Rel X.K W fr F H σ ρ n) (e : M.bind (f ρ) (fun x => M.opt (g x)) n = some (.error z, n')) (k : KX X W fr F σ ρ n' z) : tD X W f σ H Q := R.dE e k fun _ _ _ _ _ _ h _ _ _ => (M.opt_err h).elim
theorem Rel.dsE1 {α : Type} {f : EXs} {g : List D → Option α} {Q : List V → Hp → Prop} (R : Rel X.K W fr F H σ ρ n) (e : M.bind (f ρ) (fun x => M.opt (g x)) n = some (.error z, n')) (k : KX X W fr F σ ρ n' z) : tDs X W f σ H Q := R.dsE e k fun _ _ _ _ _ _ h _ _ _ => (M.opt_err h).elim
end
theorem imp_E {X : Cx} {e : Expr} {t t' : TE} (h : PE X e t) (k : ∀ σ H Q, t' σ H Q → t σ H Q) : PE X e t' := ⟨fun pins s σ H Q I q => h.run pins s σ H Q I (k σ H Q q)⟩
theorem imp_T {X : Cx} {e : Expr} {t t' : TT} (h : PT X e t) (k : ∀ σ H Q, t' σ H Q → t σ H Q) : PT X e t' := ⟨fun pins s σ H Q I q => h.run pins s σ H Q I (k σ H Q q)⟩
theorem imp_W {X : Cx} {e : Expr} {t t' : TT} (h : PW X e t) (k : ∀ σ H Q, t' σ H Q → t σ H Q) : PW X e t' := ⟨fun w pins s σ H Q I q => h.run w pins s σ H Q I (k σ H Q q)⟩
theorem imp_A {X : Cx} {e : List Expr} {t t' : TA} (h : PA X e t) (k : ∀ σ H Q, t' σ H Q → t σ H Q) : PA X e t' := ⟨fun p pins s σ H Q I q => h.run p pins s σ H Q I (k σ H Q q)⟩
theorem imp_S {X : Cx} {e : Stmt} {t t' : TS} (h : PS X e t) (k : ∀ E σ H, t' E σ H → t E σ H) : PS X e t' := ⟨fun pins s σ H E I q => h.run pins s σ H E I (k E σ H q)⟩
theorem imp_Ss {X : Cx} {e : List Stmt} {t t' : TS} (h : PSs X e t) (k : ∀ E σ H, t' E σ H → t E σ H) : PSs X e t' := ⟨fun pins s σ H E I q => h.run pins s σ H E I (k E σ H q)⟩
end DL
end

section
set_option Elab.async false
set_option linter.all false
set_option autoImplicit false
set_option maxRecDepth 100000
namespace DL
open PySem PySem.Spec L2
section
variable {X : Cx} {W : Wd}

/-! ### names, constants -/
def eVar (i : Nat) : EX := fun ρ => M.opt (match ρ[i]? with | some (Sl.val d) => some d | _ => none)
theorem eVar_some {i : Nat} {ρ : Env} {n n1 : Int} {d : D} (h : eVar i ρ n = some (.ok d, n1)) : ρ[i]? = some (.val d) ∧ n1 = n := by
  unfold eVar at h
  obtain ⟨h1, h2⟩ := M.opt_ok h
  split at h1
  · cases h1; exact ⟨‹_›, h2⟩
  · cases h1
theorem d_var {e : Expr} {i : Nat} (h : PE X e (tVar i)) : PD X W e (eVar i) := imp_E h fun σ H Q ⟨fr, F, ρ, n, r, n', R, e, k⟩ => by
  rcases r with z | d
  · exact (M.opt_err e).elim
  obtain ⟨h1, h2⟩ := eVar_some e
  subst h2
  obtain ⟨ad, s⟩ := R.slots
  obtain ⟨v, h3, h4⟩ := s.val i d h1
  exact ⟨v, h3, k F H v R (Sub.refl _) h4⟩
theorem dv (i : Nat) {x : Str} {pos : Pos} (hN : X.N[i]? = some x := by rfl) (hv : Vis X.env.scope x := by first | exact Or.inl rfl | exact Or.inr (Or.inl rfl) | exact Or.inr (Or.inr rfl)) (hd : (x == ("__debug__" : Str)) = false := by decide)
    (hcd : (x == ("__classdict__" : Str)) = false := by decide) : PD X W (.Name x pos) (eVar i) := d_var (pe_var hN hv hd hcd)
def eC (d : D) : EX := fun _ => M.pure d
theorem d_con {e : Expr} {v : V} {d : D} (h : PE X e (tC v)) (hd : ∀ K W dr F, Den K W dr F v d) : PD X W e (eC d) := imp_E h fun σ H Q ⟨fr, F, ρ, n, r, n', R, e, k⟩ => by
  rcases r with z | d'
  · exact (M.pure_err e).elim
  obtain ⟨h1, h2⟩ := M.pure_ok e
  subst h1 h2
  exact k F H v R (Sub.refl _) (hd _ _ _ _)
theorem d_int {i j pos} : PD X W (.Constant (.int i) j pos) (eC (.int i)) := d_con pe_int fun _ _ _ _ => .int i
theorem d_bl {i j pos} : PD X W (.Constant (.bool i) j pos) (eC (.bl i)) := d_con pe_bl fun _ _ _ _ => .bl i
theorem d_non {j pos} : PD X W (.Constant .none j pos) (eC .non) := d_con pe_non fun _ _ _ _ => .non
/-- a module's constant that is an int, a text, a bool -/
theorem d_glob {x : Str} {v : V} {u : Value} {pos : Pos} {d : D} (hg : Gl X x) (hm : X.mg x = some u) (r : RelV v u) (hd : ∀ K W dr F, Den K W dr F v d) (hx : (x == ("__debug__" : Str)) = false := by decide) : PD X W (.Name x pos) (eC d) := d_con (pe_glob hg hm r hx) hd

/-! ### lists of expressions -/
def eNil : EXs := fun _ => M.pure []
def eCons (f : EX) (g : EXs) : EXs := fun ρ => M.bind (f ρ) fun d => M.bind (g ρ) fun ds => M.pure (d :: ds)
theorem ds_nil : PDs X W [] eNil := imp_A pa_nil fun σ H Q ⟨fr, F, ρ, n, r, n', R, e, k⟩ => by
  rcases r with z | d
  · exact (M.pure_err e).elim
  obtain ⟨h1, h2⟩ := M.pure_ok e
  subst h1 h2
  exact k F H [] R (Sub.refl _) .nil
theorem ds_cons {e : Expr} {es : List Expr} {f : EX} {g : EXs} (he : PD X W e f) (hr : PDs X W es g) (hs : starEach (e :: es) X.env = (false, eval e X.env) :: starEach es X.env := by rfl) : PDs X W (e :: es) (eCons f g) :=
  imp_A (pa_cons he hr hs) fun σ H Q ⟨fr, F, ρ, n, r, n', R, e, k⟩ => by
    rcases r with z | ds
    · exact R.dE e k fun d n1 F1 H1 v e1 h R1 s1 d1 => R1.dsE h (k.mono s1) fun _ _ _ _ _ _ h _ _ _ => (M.pure_err h).elim
    obtain ⟨d, n1, h1, h⟩ := M.bind_ok e
    obtain ⟨ds', n2, h2, h⟩ := M.bind_ok h
    obtain ⟨h3, h4⟩ := M.pure_ok h
    subst h3 h4
    exact ⟨fr, F, ρ, n, .ok d, n1, R, h1, fun F1 H1 v R1 s1 d1 => ⟨fr, F1, ρ, n1, .ok ds', _, R1, h2, fun F2 H2 vs R2 s2 d2 => k F2 H2 _ R2 (s1.trans s2) (.cons (d1.mono s2 fun _ z => z) d2)⟩⟩

/-! ### displays -/
def gz (ds : List D) : Bool := decide (ds.length ≤ sizeLine)
def mkTup (ds : List D) : Option D := if gz ds then some (.tup ds) else none
def mkLst (ds : List D) : Option D := if gz ds then some (.lst ds) else none
theorem mkTup_ok {ds : List D} {d : D} (h : mkTup ds = some d) : d = .tup ds ∧ ds.length ≤ sizeLine := by
  unfold mkTup at h
  split at h
  · rename_i q; cases h; exact ⟨rfl, of_decide_eq_true q⟩
  · cases h
theorem mkLst_ok {ds : List D} {d : D} (h : mkLst ds = some d) : d = .lst ds ∧ ds.length ≤ sizeLine := by
  unfold mkLst at h
  split at h
  · rename_i q; cases h; exact ⟨rfl, of_decide_eq_true q⟩
  · cases h
def eTup (f : EXs) : EX := fun ρ => M.bind (f ρ) fun ds => M.opt (mkTup ds)
def eLst (f : EXs) : EX := fun ρ => M.bind (f ρ) fun ds => M.opt (mkLst ds)
/-- a new tuple, a new list, handed on as known -/
theorem put_tup {K : PySem.W.Frag} {fr : Fr} {F H : Hp} {σ : St} {ρ : Env} {n : Int} {vs : List V} {ds : List D} {Q : VK} (R : Rel K W fr F H σ ρ n) (hd : Dens K W fr.dr F vs ds)
    (k : ∀ F' H' v, Rel K W fr F' H' σ ρ n → Sub F F' → Den K W fr.dr F' v (.tup ds) → Q v H') : ∀ p, H p = none → Q (.ref p) (upd H p (.tup vs)) := fun p hp =>
  k _ _ _ (R.fresh hp) (R.core.sub.new hp) (.tup (SqT.of upd_same) (hd.mono (R.core.sub.new hp) fun _ z => z))
theorem put_lst {K : PySem.W.Frag} {fr : Fr} {F H : Hp} {σ : St} {ρ : Env} {n : Int} {vs : List V} {ds : List D} {Q : VK} (R : Rel K W fr F H σ ρ n) (hd : Dens K W fr.dr F vs ds)
    (k : ∀ F' H' v, Rel K W fr F' H' σ ρ n → Sub F F' → Den K W fr.dr F' v (.lst ds) → Q v H') : ∀ p, H p = none → Q (.ref p) (upd H p (.lst vs)) := fun p hp =>
  k _ _ _ (R.fresh hp) (R.core.sub.new hp) (.lst upd_same (hd.mono (R.core.sub.new hp) fun _ z => z))
theorem d_tup {es : List Expr} {f : EXs} {x1 pos} (h : PDs X W es f) : PD X W (.Tuple es x1 pos) (eTup f) := imp_E (pe_tup h) fun σ H Q ⟨fr, F, ρ, n, r, n', R, e, k⟩ => by
  rcases r with z | d
  · exact R.dsE1 e k
  obtain ⟨ds, n1, h1, h⟩ := M.bind_ok e
  obtain ⟨h2, h3⟩ := M.opt_ok h
  obtain ⟨h4, h5⟩ := mkTup_ok h2
  subst h3 h4
  exact ⟨fr, F, ρ, n, .ok ds, _, R, h1, fun F1 H1 vs R1 s1 d1 => ⟨by rw [d1.length]; exact h5, put_tup R1 d1 fun F2 H2 v R2 s2 d2 => k F2 H2 v R2 (s1.trans s2) d2⟩⟩
theorem d_lst {es : List Expr} {f : EXs} {pos} (h : PDs X W es f) : PD X W (.List es pos) (eLst f) := imp_E (pe_lst h) fun σ H Q ⟨fr, F, ρ, n, r, n', R, e, k⟩ => by
  rcases r with z | d
  · exact R.dsE1 e k
  obtain ⟨ds, n1, h1, h⟩ := M.bind_ok e
  obtain ⟨h2, h3⟩ := M.opt_ok h
  obtain ⟨h4, h5⟩ := mkLst_ok h2
  subst h3 h4
  exact ⟨fr, F, ρ, n, .ok ds, _, R, h1, fun F1 H1 vs R1 s1 d1 => ⟨by rw [d1.length]; exact h5, put_lst R1 d1 fun F2 H2 v R2 s2 d2 => k F2 H2 v R2 (s1.trans s2) d2⟩⟩

/-! ### operators -/
def e2 (op : D → D → Option D) (fa fb : EX) : EX := fun ρ => M.bind (fa ρ) fun x => M.bind (fb ρ) fun y => M.opt (op x y)
/-- an operator over data -/
def Op2 (K : PySem.W.Frag) (W : Wd) (r : R2) (op : D → D → Option D) : Prop := ∀ (fr : Fr) (F H : Hp) (σ : St) (ρ : Env) (n : Int) (x y d : D) (v u : V) (Q : VK), Rel K W fr F H σ ρ n → Den K W fr.dr F v x → Den K W fr.dr F u y → op x y = some d →
  (∀ F' H' w, Rel K W fr F' H' σ ρ n → Sub F F' → Den K W fr.dr F' w d → Q w H') → r v u H Q
theorem d_tOp {r : R2} {op : D → D → Option D} {fa fb : EX} (hd : Op2 X.K W r op) {σ : St} {H : Hp} {Q : VK} (h : tD X W (e2 op fa fb) σ H Q) : tOp r (tD X W fa) (tD X W fb) σ H Q := by
  obtain ⟨fr, F, ρ, n, r, n', R, e, k⟩ := h
  rcases r with z | d
  · exact R.dE e k fun x n1 F1 H1 v e1 h R1 s1 d1 => R1.dE1 h (k.mono s1)
  obtain ⟨x, n1, h1, h⟩ := M.bind_ok e
  obtain ⟨y, n2, h2, h⟩ := M.bind_ok h
  obtain ⟨h3, h4⟩ := M.opt_ok h
  subst h4
  exact ⟨fr, F, ρ, n, .ok x, n1, R, h1, fun F1 H1 v R1 s1 d1 => ⟨fr, F1, ρ, n1, .ok y, _, R1, h2, fun F2 H2 u R2 s2 d2 => hd fr F2 H2 σ ρ _ x y d v u Q R2 (d1.mono s2 fun _ z => z) d2 h3 fun F3 H3 w R3 s3 d3 => k F3 H3 w R3 ((s1.trans s2).trans s3) d3⟩⟩
theorem d_op {a b : Expr} {fa fb : EX} {o : Operator} {r : R2} {op : D → D → Option D} {pos : Pos} (ho : OpR X (binaryOp o) r) (hd : Op2 X.K W r op) (ha : PD X W a fa) (hb : PD X W b fb) : PD X W (.BinOp a o b pos) (e2 op fa fb) := imp_E (pe_op ho ha hb) fun _ _ _ h => d_tOp hd h
theorem d_cmp {a b : Expr} {fa fb : EX} {o : CmpOp} {r : R2} {op : D → D → Option D} {pos : Pos} (ho : OpR X (compareOp o) r) (hd : Op2 X.K W r op) (ha : PD X W a fa) (hb : PD X W b fb) (hm : behindInMarks o b = false) : PD X W (.Compare a [o] [b] pos) (e2 op fa fb) := imp_E (pe_cmpR ho ha hb hm) fun _ _ _ h => d_tOp hd h

def dAdd : D → D → Option D
  | .int a, .int b => some (.int (a + b))
  | .str a, .str b => if a.length + b.length ≤ sizeLine then some (.str (a ++ b)) else none
  | .tup a, .tup b => mkTup (a ++ b)
  | .lst a, .lst b => mkLst (a ++ b)
  | _, _ => none
theorem dens_ne {K : PySem.W.Frag} {dr : Option Addr} {F : Hp} {vs : List V} {ds : List D} (h : Dens K W dr F vs ds) : vs = [] ↔ ds = [] := by
  cases h <;> simp
abbrev rAddD (K : PySem.W.Frag) : R2 := fun x y H Q => (((rI0 fun i j => .int (i + j)) x y H Q ∨ (∃ i j, x = .str i ∧ y = .str j ∧ i.length + j.length ≤ sizeLine ∧ Q (.str (i ++ j)) H)) ∨ rCatA K x y H Q) ∨ rCat x y H Q
theorem o_add : OpR X (binaryOp .Add) (rAddD X.K) := ((op_add.or op_add_str).or op_catA).or op_cat
theorem q_add {K : PySem.W.Frag} : Op2 K W (rAddD K) dAdd := by
  intro fr F H σ ρ n x y d v u Q R dx dy h k
  unfold dAdd at h
  split at h
  · cases dx; cases dy; cases h
    exact .inl (.inl (.inl ⟨_, _, rfl, rfl, k F H _ R (Sub.refl _) (.int _)⟩))
  · split at h
    · cases dx; cases dy; cases h
      exact .inl (.inl (.inr ⟨_, _, rfl, rfl, ‹_›, k F H _ R (Sub.refl _) (.str _)⟩))
    · cases h
  · obtain ⟨rfl, hz⟩ := mkTup_ok h
    cases dx with
    | tup hx rx =>
      cases dy with
      | tup hy ry =>
        refine .inl (.inr ⟨_, _, _, _, rfl, rfl, R.core.sub.sqT hx, R.core.sub.sqT hy, by rw [rx.length, ry.length, ← List.length_append]; exact hz, fun e => ?_, fun e1 e2 => ?_, fun e1 e2 => ?_⟩)
        · rw [(dens_ne rx).mp e, List.nil_append] at k
          exact k F H _ R (Sub.refl _) (.tup hy ry)
        · rw [(dens_ne ry).mp e2, List.append_nil] at k
          exact k F H _ R (Sub.refl _) (.tup hx rx)
        · exact put_tup R (rx.append ry) k
  · obtain ⟨rfl, hz⟩ := mkLst_ok h
    cases dx with
    | lst hx rx =>
      cases dy with
      | lst hy ry =>
        exact .inr ⟨_, _, _, _, rfl, rfl, R.core.sub _ _ hx, R.core.sub _ _ hy, by rw [rx.length, ry.length, ← List.length_append]; exact hz, put_lst R (rx.append ry) k⟩
  · cases h
theorem d_add {a b : Expr} {fa fb : EX} {pos : Pos} (ha : PD X W a fa) (hb : PD X W b fb) : PD X W (.BinOp a .Add b pos) (e2 dAdd fa fb) := d_op o_add q_add ha hb

/-- an operator of ints -/
def dI (C : Int → Int → Bool) (g : Int → Int → D) : D → D → Option D
  | .int a, .int b => if C a b then some (g a b) else none
  | _, _ => none
theorem q_I {K : PySem.W.Frag} {C : Int → Int → Prop} {D' : Int → Int → Bool} {g : Int → Int → V} {gd : Int → Int → D} (hC : ∀ i j, D' i j = true → C i j) (hg : ∀ K W dr F i j, Den K W dr F (g i j) (gd i j)) : Op2 K W (rI C g) (dI D' gd) := by
  intro fr F H σ ρ n x y d v u Q R dx dy h k
  unfold dI at h
  split at h
  · split at h
    · cases dx; cases dy; cases h
      exact ⟨_, _, rfl, rfl, hC _ _ ‹_›, k F H _ R (Sub.refl _) (hg _ _ _ _ _ _)⟩
    · cases h
  · cases h
theorem q_I0 {K : PySem.W.Frag} {g : Int → Int → V} {gd : Int → Int → D} (hg : ∀ K W dr F i j, Den K W dr F (g i j) (gd i j)) : Op2 K W (rI0 g) (dI (fun _ _ => true) gd) := by
  intro fr F H σ ρ n x y d v u Q R dx dy h k
  unfold dI at h
  split at h
  · cases dx; cases dy; cases h
    exact ⟨_, _, rfl, rfl, k F H _ R (Sub.refl _) (hg _ _ _ _ _ _)⟩
  · cases h
def dSub : D → D → Option D := dI (fun _ _ => true) fun i j => .int (i - j)
def small64 (i : Int) : Bool := decide (-(2 ^ 64) < i) && decide (i < 2 ^ 64)
def dMod : D → D → Option D := dI (fun _ j => decide (0 < j)) fun i j => .int (i % j)
def dDiv : D → D → Option D := dI (fun _ j => decide (0 < j) && decide (j < 1073741824)) fun i j => .int (i / j)
def dPow : D → D → Option D := dI (fun i j => decide (0 ≤ j) && decide (j ≤ 1000000) && decide (i.natAbs < 2 ^ 64)) fun i j => .int (i ^ j.toNat)
theorem d_sub {a b : Expr} {fa fb : EX} {pos : Pos} (ha : PD X W a fa) (hb : PD X W b fb) : PD X W (.BinOp a .Sub b pos) (e2 dSub fa fb) := d_op op_sub (q_I0 fun _ _ _ _ _ _ => .int _) ha hb
theorem small64_ok {i : Int} (h : small64 i = true) : -(2 ^ 64) < i ∧ i < 2 ^ 64 := by
  unfold small64 at h
  simp only [Bool.and_eq_true, decide_eq_true_eq] at h
  exact h
theorem d_mod {a b : Expr} {fa fb : EX} {pos : Pos} (ha : PD X W a fa) (hb : PD X W b fb) : PD X W (.BinOp a .Mod b pos) (e2 dMod fa fb) := d_op op_mod (q_I (fun i j h => of_decide_eq_true h) fun _ _ _ _ _ _ => .int _) ha hb
theorem d_div {a b : Expr} {fa fb : EX} {pos : Pos} (ha : PD X W a fa) (hb : PD X W b fb) : PD X W (.BinOp a .FloorDiv b pos) (e2 dDiv fa fb) := d_op op_fdiv (q_I (fun i j h => by
  simp only [Bool.and_eq_true, decide_eq_true_eq] at h
  exact h) fun _ _ _ _ _ _ => .int _) ha hb
theorem d_pow {a b : Expr} {fa fb : EX} {pos : Pos} (ha : PD X W a fa) (hb : PD X W b fb) : PD X W (.BinOp a .Pow b pos) (e2 dPow fa fb) := d_op op_pow (q_I (fun i j h => by
  simp only [Bool.and_eq_true, decide_eq_true_eq] at h
  exact ⟨h.1.1, h.1.2, h.2⟩) fun _ _ _ _ _ _ => .int _) ha hb

/-! ### comparisons -/
def strLt (a b : Str) : Bool := decide (a.cps.toList < b.cps.toList)
def dLt : D → D → Option D
  | .int a, .int b => some (.bl (decide (a < b)))
  | .str a, .str b => some (.bl (strLt a b))
  | _, _ => none
theorem d_lt {a b : Expr} {fa fb : EX} {pos : Pos} (ha : PD X W a fa) (hb : PD X W b fb) : PD X W (.Compare a [.Lt] [b] pos) (e2 dLt fa fb) := d_cmp (op_lt.or op_lt_str) (by
  intro fr F H σ ρ n x y d v u Q R dx dy h k
  unfold dLt at h
  split at h
  · cases dx; cases dy; cases h
    exact .inl ⟨_, _, rfl, rfl, k F H _ R (Sub.refl _) (.bl _)⟩
  · cases dx; cases dy; cases h
    exact .inr ⟨_, _, rfl, rfl, k F H _ R (Sub.refl _) (.bl _)⟩
  · cases h) ha hb (nomark _)
def dCI (p : Int → Int → Bool) : D → D → Option D := dI (fun _ _ => true) fun i j => .bl (p i j)
abbrev dLe := dCI fun i j => decide (i ≤ j)
abbrev dGt := dCI fun i j => decide (j < i)
abbrev dGe := dCI fun i j => decide (j ≤ i)
mutual
def toPy : D → Option PyData
  | .non => some .none
  | .bl b => some (.bool b)
  | .int i => some (.int i)
  | .str x => some (.str x)
  | .tup xs => match toPys xs with | some ys => some (.tuple ys) | none => none
  | .lst xs => match toPys xs with | some ys => some (.list ys) | none => none
  | _ => none
def toPys : List D → Option (List PyData)
  | [] => some []
  | x :: xs => match toPy x, toPys xs with | some y, some ys => some (y :: ys) | _, _ => none
end
mutual
theorem dp_of {K : PySem.W.Frag} {dr : Option Addr} {F H : Hp} (s : Sub F H) : ∀ {v : V} {d : D} {p : PyData}, Den K W dr F v d → toPy d = some p → Dp K H v p
  | _, _, _, .non, h => by unfold toPy at h; cases h; exact .non
  | _, _, _, .bl b, h => by unfold toPy at h; cases h; exact .bl b
  | _, _, _, .int b, h => by unfold toPy at h; cases h; exact .int b
  | _, _, _, .str b, h => by unfold toPy at h; cases h; exact .str b
  | _, _, _, .tup h1 h2, h => by
    unfold toPy at h
    split at h
    · cases h; exact .tup (s.sqT h1) (dps_of s h2 ‹_›)
    · cases h
  | _, _, _, .lst h1 h2, h => by
    unfold toPy at h
    split at h
    · cases h; exact .lst (SqL.of (s _ _ h1)) (dps_of s h2 ‹_›)
    · cases h
  | _, _, _, .scr _, h => by simp [toPy] at h
  | _, _, _, .rng _, h => by simp [toPy] at h
  | _, _, _, .odd _ _, h => by simp [toPy] at h
  | _, _, _, .dic _ _ _, h => by simp [toPy] at h
  | _, _, _, .dit _ _ _, h => by simp [toPy] at h
  | _, _, _, .obj _ _ _, h => by simp [toPy] at h
  | _, _, _, .drw _, h => by simp [toPy] at h
theorem dps_of {K : PySem.W.Frag} {dr : Option Addr} {F H : Hp} (s : Sub F H) : ∀ {vs : List V} {ds : List D} {ps : List PyData}, Dens K W dr F vs ds → toPys ds = some ps → DpAll K H vs ps
  | _, _, _, .nil, h => by unfold toPys at h; cases h; exact .nil
  | _, _, _, .cons h1 h2, h => by
    unfold toPys at h
    split at h
    · cases h; exact .cons (dp_of s h1 ‹_›) (dps_of s h2 ‹_›)
    · cases h
end
def dEqB (x y : D) : Option Bool := match toPy x, toPy y with
  | some a, some b => if SeqAt.shaped a && SeqAt.shaped b then some (PyData.eqv a b) else none
  | _, _ => none
def dEq (x y : D) : Option D := match dEqB x y with | some b => some (.bl b) | none => none
def dNe (x y : D) : Option D := match dEqB x y with | some b => some (.bl (!b)) | none => none
theorem dEqB_ok {x y : D} {b : Bool} (h : dEqB x y = some b) : ∃ p q, toPy x = some p ∧ toPy y = some q ∧ SeqAt.shaped p = true ∧ SeqAt.shaped q = true ∧ b = PyData.eqv p q := by
  unfold dEqB at h
  split at h
  · split at h
    · rename_i a b h1 h2 hs
      rw [Bool.and_eq_true] at hs
      cases h
      exact ⟨_, _, h1, h2, hs.1, hs.2, rfl⟩
    · cases h
  · cases h
theorem d_eq {a b : Expr} {fa fb : EX} {pos : Pos} (hu : X.A.units + 64 < cLine) (ha : PD X W a fa) (hb : PD X W b fb) : PD X W (.Compare a [.Eq] [b] pos) (e2 dEq fa fb) := d_cmp (op_eqD hu) (by
  intro fr F H σ ρ n x y d v u Q R dx dy h k
  unfold dEq at h
  split at h
  · cases h
    obtain ⟨p, q, h1, h2, h3, h4, rfl⟩ := dEqB_ok ‹_›
    exact ⟨p, q, dp_of R.core.sub dx h1, dp_of R.core.sub dy h2, h3, h4, k F H _ R (Sub.refl _) (.bl _)⟩
  · cases h) ha hb (nomark _)
/-- is None -/
def e1 (op : D → Option D) (fa : EX) : EX := fun ρ => M.bind (fa ρ) fun x => M.opt (op x)
def isNon : D → Bool | .non => true | _ => false
theorem isNon_of {K : PySem.W.Frag} {dr : Option Addr} {F : Hp} {v : V} {d : D} (h : Den K W dr F v d) : decide (v = .non) = isNon d := by
  cases h <;> simp [isNon]
/-- unary minus -/
def dNeg : D → Option D | .int i => some (.int (-i)) | _ => none
theorem d_neg {a : Expr} {fa : EX} {pos : Pos} (ha : PD X W a fa) : PD X W (.UnaryOp .USub a pos) (e1 dNeg fa) := imp_E (pe_un un_neg ha) fun σ H Q ⟨fr, F, ρ, n, r, n', R, e, k⟩ => by
  rcases r with z | d
  · exact R.dE1 e k
  obtain ⟨x, n1, h1, h⟩ := M.bind_ok e
  obtain ⟨h2, h3⟩ := M.opt_ok h
  subst h3
  refine ⟨fr, F, ρ, n, .ok x, _, R, h1, fun F1 H1 v R1 s1 d1 => ?_⟩
  unfold dNeg at h2
  split at h2
  · cases h2; cases d1
    exact ⟨_, rfl, k F1 H1 _ R1 s1 (.int _)⟩
  · cases h2
end
end DL
end

section
set_option Elab.async false
set_option linter.all false
set_option autoImplicit false
set_option maxRecDepth 100000
namespace DL
open PySem PySem.Spec L2
section
variable {X : Cx} {W : Wd}

/-! ### truth, tests -/
def dTru : D → Option Bool
  | .non => some false
  | .bl b => some b
  | .int i => some (i != 0)
  | .str x => if x.length ≤ sizeLine then some ((x.length : Int) != 0) else none
  | .tup xs => some (!xs.isEmpty)
  | .lst xs => some (!xs.isEmpty)
  | .scr => none
  | .rng _ _ => none
  | .odd _ _ => none
  | .dic _ _ => none
  | .dit _ _ => none
  | .obj _ _ _ => none
  | .drw => none
theorem tru_of {K : PySem.W.Frag} {dr : Option Addr} {F H : Hp} (s : Sub F H) {v : V} {d : D} {b : Bool} (h : Den K W dr F v d) (e : dTru d = some b) : TruV K v H b := by
  cases h with
  | non => cases e; rfl
  | bl b => cases e; rfl
  | int i => cases e; rfl
  | str x =>
    unfold dTru at e
    split at e <;> simp_all [TruV]
  | tup h1 h2 =>
    cases e
    exact .inr (.inl ⟨_, s.sqT h1, by cases h2 <;> rfl⟩)
  | lst h1 h2 =>
    cases e
    exact .inl ⟨_, SqL.of (s _ _ h1), by cases h2 <;> rfl⟩
  | scr _ => cases e
  | rng _ => cases e
  | odd _ _ => cases e
  | dic _ _ _ => cases e
  | dit _ _ _ => cases e
  | obj _ _ _ => cases e
  | drw _ => cases e
/-- the truth of a value, as a test -/
def tTru (f : EX) : TX := fun ρ => M.bind (f ρ) fun d => M.opt (dTru d)
theorem t_tru {a : Expr} {f : EX} (ha : PD X W a f) (he : ∀ whole, isTrue a X.env whole = (do let v ← whole; standAt a.pos; holding [v] (truthy v)) := by intro _; rfl) : PDT X W a (tTru f) := imp_T (pt_truth ha he) fun σ H Q ⟨fr, F, ρ, n, r, n', R, e, k⟩ => by
  rcases r with z | b
  · exact R.dE1 e k
  obtain ⟨x, n1, h1, h⟩ := M.bind_ok e
  obtain ⟨h2, h3⟩ := M.opt_ok h
  subst h3
  exact ⟨fr, F, ρ, n, .ok x, _, R, h1, fun F1 H1 v R1 s1 d1 => ⟨b, tru_of R1.core.sub d1 h2, k F1 H1 R1 s1⟩⟩
/-- a comparison as a test -/
def dBool : D → Option Bool | .bl b => some b | _ => none
def tB (f : EX) : TX := fun ρ => M.bind (f ρ) fun d => M.opt (dBool d)
theorem t_test {t : TE} {f : EX} (h : ∀ σ H Q, tD X W f σ H Q → t σ H Q) {σ : St} {H : Hp} {Q : Bool → Hp → Prop} (h' : tT X W (tB f) σ H Q) : tTest t σ H Q := by
  obtain ⟨fr, F, ρ, n, r, n', R, e, k⟩ := h'
  rcases r with z | b
  · exact h σ H _ (R.dE1 e k)
  obtain ⟨x, n1, h1, h2⟩ := M.bind_ok e
  obtain ⟨h3, h4⟩ := M.opt_ok h2
  subst h4
  refine h σ H _ ⟨fr, F, ρ, n, .ok x, _, R, h1, fun F1 H1 v R1 s1 d1 => ?_⟩
  unfold dBool at h3
  split at h3
  · cases h3; cases d1; exact ⟨_, rfl, k F1 H1 R1 s1⟩
  · cases h3
theorem t_cmp {a b : Expr} {fa fb : EX} {o : CmpOp} {r : R2} {op : D → D → Option D} {pos : Pos} (ho : OpR X (compareOp o) r) (hd : Op2 X.K W r op) (ha : PD X W a fa) (hb : PD X W b fb) (hm : behindInMarks o b = false) : PDT X W (.Compare a [o] [b] pos) (tB (e2 op fa fb)) := imp_T (pt_cmpR ho ha hb hm) fun σ H Q h => t_test (fun _ _ _ => d_tOp hd) h
def eChain (o1 o2 : D → D → Option D) (fa fb fc : EX) : EX := fun ρ => M.bind (fa ρ) fun x => M.bind (fb ρ) fun y => M.bind (M.opt (o1 x y)) fun r => match r with
  | .bl true => M.bind (fc ρ) fun z => M.opt (o2 y z)
  | .bl false => M.pure (.bl false)
  | _ => M.opt none
theorem d_tChain {r r' : R2} {o1 o2 : D → D → Option D} {fa fb fc : EX} (h1 : Op2 X.K W r o1) (h2 : Op2 X.K W r' o2) {σ : St} {H : Hp} {Q : VK} (h : tD X W (eChain o1 o2 fa fb fc) σ H Q) : tChain r r' (tD X W fa) (tD X W fb) (tD X W fc) σ H Q := by
  obtain ⟨fr, F, ρ, n, r, n', R, e, k⟩ := h
  rcases r with z | d
  · refine R.dE e k fun x n1 F1 H1 v e1 h R1 s1 d1 => R1.dE h (k.mono s1) fun y n2 F2 H2 u e2 h R2 s2 d2 => ?_
    rcases M.bind_err h with h9 | ⟨t, n3, e3, h9⟩
    · exact (M.opt_err h9).elim
    obtain ⟨e4, e5⟩ := M.opt_ok e3
    subst e5
    clear h
    refine h1 fr F2 H2 σ ρ _ x y t v u _ R2 (d1.mono s2 fun _ z => z) d2 e4 fun F3 H3 w R3 s3 d3 => ?_
    split at h9
    · cases d3
      refine ⟨true, rfl, ?_⟩
      rw [if_pos rfl]
      exact R3.dE1 h9 ((k.mono (s1.trans s2)).mono s3)
    · exact (M.pure_err h9).elim
    · exact (M.opt_err h9).elim
  obtain ⟨x, n1, e1, ha⟩ := M.bind_ok e
  obtain ⟨y, n2, e2, hb⟩ := M.bind_ok ha
  obtain ⟨z, n3, e3, h⟩ := M.bind_ok hb
  obtain ⟨e4, e5⟩ := M.opt_ok e3
  clear ha hb
  subst e5
  refine ⟨fr, F, ρ, n, .ok x, n1, R, e1, fun F1 H1 v R1 s1 d1 => ⟨fr, F1, ρ, n1, .ok y, _, R1, e2, fun F2 H2 u R2 s2 d2 => ?_⟩⟩
  refine h1 fr F2 H2 σ ρ _ x y z v u _ R2 (d1.mono s2 fun _ z => z) d2 e4 fun F3 H3 w R3 s3 d3 => ?_
  split at h
  · cases d3
    refine ⟨true, rfl, ?_⟩
    rw [if_pos rfl]
    obtain ⟨t, n4, e6, h⟩ := M.bind_ok h
    obtain ⟨e7, e8⟩ := M.opt_ok h
    subst e8
    exact ⟨fr, F3, ρ, _, .ok t, _, R3, e6, fun F4 H4 w' R4 s4 d4 => h2 fr F4 H4 σ ρ _ y t d u w' Q R4 (d2.mono (s3.trans s4) fun _ z => z) d4 e7 fun F5 H5 w5 R5 s5 d5 => k F5 H5 w5 R5 ((((s1.trans s2).trans s3).trans s4).trans s5) d5⟩
  · cases d3
    refine ⟨false, rfl, ?_⟩
    rw [if_neg Bool.false_ne_true]
    obtain ⟨e6, e7⟩ := M.pure_ok h
    subst e6 e7
    exact k F3 H3 _ R3 ((s1.trans s2).trans s3) (.bl _)
  · obtain ⟨q, _⟩ := M.opt_ok h
    cases q
theorem d_chain {a b c : Expr} {fa fb fc : EX} {p q : CmpOp} {r r' : R2} {o1 o2 : D → D → Option D} {pos : Pos} (ho : OpR X (compareOp p) r) (ho' : OpR X (compareOp q) r') (h1 : Op2 X.K W r o1) (h2 : Op2 X.K W r' o2) (ha : PD X W a fa) (hb : PD X W b fb) (hc : PD X W c fc)
    (hm : lastMarks [p, q] [b, c] = false := by with_unfolding_all rfl) : PD X W (.Compare a [p, q] [b, c] pos) (eChain o1 o2 fa fb fc) := imp_E (pe_chain ho ho' ha hb hc hm) fun _ _ _ h => d_tChain h1 h2 h
theorem t_chain {a b c : Expr} {fa fb fc : EX} {p q : CmpOp} {r r' : R2} {o1 o2 : D → D → Option D} {pos : Pos} (ho : OpR X (compareOp p) r) (ho' : OpR X (compareOp q) r') (h1 : Op2 X.K W r o1) (h2 : Op2 X.K W r' o2) (ha : PD X W a fa) (hb : PD X W b fb) (hc : PD X W c fc)
    (hm : lastMarks [p, q] [b, c] = false := by with_unfolding_all rfl) : PDT X W (.Compare a [p, q] [b, c] pos) (tB (eChain o1 o2 fa fb fc)) := imp_T (pt_chain ho ho' ha hb hc hm) fun _ _ _ h => t_test (fun _ _ _ => d_tChain h1 h2) h
def tOrD (t u : TX) : TX := fun ρ => M.bind (t ρ) fun b => match b with | true => M.pure true | false => u ρ
def tNotD (t : TX) : TX := fun ρ => M.bind (t ρ) fun b => M.pure (!b)
theorem w_or1 {a : Expr} {t : TX} {pos : Pos} (h : PDT X W a t) : PDW X W (.BoolOp .Or [a] pos) t := pw_or1 h
theorem tOr_of {t u : TX} {σ : St} {H : Hp} {Q : Bool → Hp → Prop} (h : tT X W (tOrD t u) σ H Q) : tOr (tT X W t) (tT X W u) σ H Q := by
  obtain ⟨fr, F, ρ, n, r, n', R, e, k⟩ := h
  rcases r with z | b
  · refine R.tE e k fun b n1 F1 H1 e1 h R1 s1 => ?_
    cases b with
    | true => exact (M.pure_err h).elim
    | false =>
      rw [if_neg Bool.false_ne_true]
      exact ⟨fr, F1, ρ, n1, .error z, n', R1, h, k.mono s1⟩
  obtain ⟨x, n1, e1, h⟩ := M.bind_ok e
  refine ⟨fr, F, ρ, n, .ok x, n1, R, e1, fun F1 H1 R1 s1 => ?_⟩
  cases x with
  | false =>
    rw [if_neg Bool.false_ne_true]
    exact ⟨fr, F1, ρ, n1, .ok b, n', R1, h, fun F2 H2 R2 s2 => k F2 H2 R2 (s1.trans s2)⟩
  | true =>
    rw [if_pos rfl]
    obtain ⟨e6, e7⟩ := M.pure_ok h
    subst e6 e7
    exact k F1 H1 R1 s1
theorem w_or {a b : Expr} {r : List Expr} {t u : TX} {pos : Pos} (h : PDT X W a t) (h' : PDW X W (.BoolOp .Or (b :: r) pos) u) : PDW X W (.BoolOp .Or (a :: b :: r) pos) (tOrD t u) := imp_W (pw_or h h') fun _ _ _ => tOr_of
theorem t_w {e : Expr} {t : TX} (h : PDW X W e t) : PDT X W e t := h.pt
theorem t_not {a : Expr} {t : TX} {pos : Pos} (h : PDT X W a t) : PDT X W (.UnaryOp .Not a pos) (tNotD t) := imp_T (pt_not h) fun σ H Q ⟨fr, F, ρ, n, r, n', R, e, k⟩ => by
  rcases r with z | b
  · exact R.tE e k fun _ _ _ _ _ h _ _ => (M.pure_err h).elim
  obtain ⟨x, n1, e1, h⟩ := M.bind_ok e
  obtain ⟨e6, e7⟩ := M.pure_ok h
  subst e6 e7
  exact ⟨fr, F, ρ, n, .ok x, _, R, e1, fun F1 H1 R1 s1 => k F1 H1 R1 s1⟩
/-- and, or, not, as values -/
def eAnd (f g : EX) : EX := fun ρ => M.bind (f ρ) fun d => M.bind (M.opt (dTru d)) fun b => match b with | true => g ρ | false => M.pure d
def eNot (f : EX) : EX := fun ρ => M.bind (f ρ) fun d => M.bind (M.opt (dTru d)) fun b => M.pure (.bl (!b))
theorem d_one {a : Expr} {f : EX} {o : BoolOp} {pos : Pos} (h : PD X W a f) : PD X W (.BoolOp o [a] pos) f := pe_one h
theorem d_and {a b : Expr} {r : List Expr} {f g : EX} {pos : Pos} (h : PD X W a f) (h' : PD X W (.BoolOp .And (b :: r) pos) g) : PD X W (.BoolOp .And (a :: b :: r) pos) (eAnd f g) := imp_E (pe_andT h h') fun σ H Q ⟨fr, F, ρ, n, r, n', R, e, k⟩ => by
  rcases r with z | d
  · refine R.dE e k fun x n1 F1 H1 v e1 h R1 s1 d1 => ?_
    rcases M.bind_err h with h | ⟨b, n2, e2, h⟩
    · exact (M.opt_err h).elim
    obtain ⟨e3, e4⟩ := M.opt_ok e2
    subst e4
    refine ⟨b, tru_of R1.core.sub d1 e3, ?_⟩
    cases b with
    | false => exact (M.pure_err h).elim
    | true =>
      rw [if_pos rfl]
      exact ⟨fr, F1, ρ, _, .error z, n', R1, h, k.mono s1⟩
  obtain ⟨x, n1, e1, ha⟩ := M.bind_ok e
  obtain ⟨b, n2, e2, h⟩ := M.bind_ok ha
  obtain ⟨e3, e4⟩ := M.opt_ok e2
  clear ha
  subst e4
  refine ⟨fr, F, ρ, n, .ok x, _, R, e1, fun F1 H1 v R1 s1 d1 => ⟨b, tru_of R1.core.sub d1 e3, ?_⟩⟩
  cases b with
  | true =>
    rw [if_pos rfl]
    exact ⟨fr, F1, ρ, _, .ok d, n', R1, h, fun F2 H2 u R2 s2 d2 => k F2 H2 u R2 (s1.trans s2) d2⟩
  | false =>
    rw [if_neg Bool.false_ne_true]
    obtain ⟨e6, e7⟩ := M.pure_ok h
    subst e6 e7
    exact k F1 H1 v R1 s1 d1
theorem d_not {a : Expr} {f : EX} {pos : Pos} (h : PD X W a f) : PD X W (.UnaryOp .Not a pos) (eNot f) := imp_E (pe_notT h) fun σ H Q ⟨fr, F, ρ, n, r, n', R, e, k⟩ => by
  rcases r with z | d
  · refine R.dE e k fun x n1 F1 H1 v e1 h R1 s1 d1 => ?_
    rcases M.bind_err h with h | ⟨b, n2, e2, h⟩
    · exact (M.opt_err h).elim
    · exact (M.pure_err h).elim
  obtain ⟨x, n1, e1, ha⟩ := M.bind_ok e
  obtain ⟨b, n2, e2, h⟩ := M.bind_ok ha
  obtain ⟨e3, e4⟩ := M.opt_ok e2
  clear ha
  subst e4
  obtain ⟨e6, e7⟩ := M.pure_ok h
  subst e6 e7
  exact ⟨fr, F, ρ, n, .ok x, _, R, e1, fun F1 H1 v R1 s1 d1 => ⟨b, tru_of R1.core.sub d1 e3, k F1 H1 _ R1 s1 (.bl _)⟩⟩
def eIf (t : TX) (f g : EX) : EX := fun ρ => M.bind (t ρ) fun b => match b with | true => f ρ | false => g ρ
theorem d_if {c a b : Expr} {t : TX} {f g : EX} {pos : Pos} (hc : PDT X W c t) (ha : PD X W a f) (hb : PD X W b g) : PD X W (.IfExp c a b pos) (eIf t f g) := imp_E (pe_ifExp hc ha hb) fun σ H Q ⟨fr, F, ρ, n, r, n', R, e, k⟩ => by
  rcases r with z | d
  · refine R.tE e k fun b n1 F1 H1 e1 h R1 s1 => ?_
    cases b with
    | true =>
      rw [if_pos rfl]
      exact ⟨fr, F1, ρ, n1, .error z, n', R1, h, k.mono s1⟩
    | false =>
      rw [if_neg Bool.false_ne_true]
      exact ⟨fr, F1, ρ, n1, .error z, n', R1, h, k.mono s1⟩
  obtain ⟨b, n1, e1, h⟩ := M.bind_ok e
  refine ⟨fr, F, ρ, n, .ok b, n1, R, e1, fun F1 H1 R1 s1 => ?_⟩
  cases b with
  | true =>
    rw [if_pos rfl]
    exact ⟨fr, F1, ρ, n1, .ok d, n', R1, h, fun F2 H2 v R2 s2 d2 => k F2 H2 v R2 (s1.trans s2) d2⟩
  | false =>
    rw [if_neg Bool.false_ne_true]
    exact ⟨fr, F1, ρ, n1, .ok d, n', R1, h, fun F2 H2 v R2 s2 d2 => k F2 H2 v R2 (s1.trans s2) d2⟩

/-! ### subscripts -/
def dIx : D → D → Option D
  | .tup xs, .int i => atI xs i
  | .lst xs, .int i => atI xs i
  | .str z, .int i => if z.length ≤ sizeLine then (match atI z.cps.toList i with | some c => some (.str ⟨#[c]⟩) | none => none) else none
  | .scr, .int i => none
  | _, _ => none
theorem Dens.at {K : PySem.W.Frag} {dr : Option Addr} {F : Hp} {vs : List V} {ds : List D} {i : Int} {d : D} (h : Dens K W dr F vs ds) (e : atI ds i = some d) : ∃ v, atI vs i = some v ∧ Den K W dr F v d := by
  unfold atI at e ⊢
  rw [h.length]
  cases q : ixN ds.length i with
  | none => rw [q] at e; cases e
  | some j =>
    rw [q] at e
    exact h.get e
theorem q_ix {K : PySem.W.Frag} : Op2 K W (rIx K) dIx := by
  intro fr F H σ ρ n x y d v u Q R dx dy h k
  unfold dIx at h
  split at h
  · cases dx with
    | tup h1 h2 =>
      cases dy
      obtain ⟨w, e1, e2⟩ := h2.at h
      exact .inr (.inl ⟨_, _, _, w, rfl, rfl, R.core.sub.sqT h1, e1, k F H w R (Sub.refl _) e2⟩)
  · cases dx with
    | lst h1 h2 =>
      cases dy
      obtain ⟨w, e1, e2⟩ := h2.at h
      exact .inl ⟨_, _, _, w, rfl, rfl, SqL.of (R.core.sub _ _ h1), e1, k F H w R (Sub.refl _) e2⟩
  · cases dx; cases dy
    split at h
    · split at h
      · cases h
        exact .inr (.inr ⟨_, _, _, rfl, rfl, ‹_›, ‹_›, k F H _ R (Sub.refl _) (.str _)⟩)
      · cases h
    · cases h
  · cases h
  · cases h
theorem d_ix {a b : Expr} {fa fb : EX} {pos : Pos} (ha : PD X W a fa) (hb : PD X W b fb) (hs : PlainIx b := by exact fun _ _ => rfl) : PD X W (.Subscript a b pos) (e2 dIx fa fb) := imp_E (pe_ix ix_seq ha hb hs) fun _ _ _ h => d_tOp q_ix h

/-! ### slices a[lo:hi] -/
abbrev EO := Env → M (Option Int)
/-! ### built-ins by values -/
/-- a built-in called -/
def CallD (K : PySem.W.Frag) (W : Wd) (r : List V → Hp → VK → Prop) (op : List D → Option D) : Prop := ∀ (fr : Fr) (F H : Hp) (σ : St) (ρ : Env) (n : Int) (xs : List D) (d : D) (vs : List V) (Q : VK), Rel K W fr F H σ ρ n → Dens K W fr.dr F vs xs → op xs = some d →
  (∀ F' H' w, Rel K W fr F' H' σ ρ n → Sub F F' → Den K W fr.dr F' w d → Q w H') → r vs H Q
def eB (op : List D → Option D) (f : EXs) : EX := fun ρ => M.bind (f ρ) fun xs => M.opt (op xs)
theorem tCB_of {r : List V → Hp → VK → Prop} {op : List D → Option D} {f : EXs} (hd : CallD X.K W r op) {σ : St} {H : Hp} {Q : VK} (h : tD X W (eB op f) σ H Q) : tCB r (tDs X W f) σ H Q := by
  obtain ⟨fr, F, ρ, n, r, n', R, e, k⟩ := h
  rcases r with z | d
  · exact R.dsE1 e k
  obtain ⟨x, n1, e1, h⟩ := M.bind_ok e
  obtain ⟨e4, e5⟩ := M.opt_ok h
  subst e5
  exact ⟨fr, F, ρ, n, .ok x, _, R, e1, fun F1 H1 vs R1 s1 d1 => hd fr F1 H1 σ ρ _ x d vs Q R1 d1 e4 fun F2 H2 w R2 s2 d2 => k F2 H2 w R2 (s1.trans s2) d2⟩
def dLen : List D → Option D
  | [.tup xs] => some (.int xs.length)
  | [.lst xs] => some (.int xs.length)
  | [.str x] => if x.length ≤ sizeLine then some (.int x.length) else none
  | _ => none
theorem q_len {K : PySem.W.Frag} : CallD K W (fun xs H Q => ∃ x n, xs = [x] ∧ LenV K x H n ∧ Q (.int n) H) dLen := by
  intro fr F H σ ρ n xs d vs Q R dx h k
  unfold dLen at h
  split at h
  · cases h
    cases dx with
    | cons h1 h2 =>
      cases h2
      cases h1 with
      | tup h3 h4 => exact ⟨_, _, rfl, .inr ⟨_, R.core.sub.sqT h3, rfl⟩, by rw [h4.length]; exact k F H _ R (Sub.refl _) (.int _)⟩
  · cases h
    cases dx with
    | cons h1 h2 =>
      cases h2
      cases h1 with
      | lst h3 h4 => exact ⟨_, _, rfl, .inl ⟨_, SqL.of (R.core.sub _ _ h3), rfl⟩, by rw [h4.length]; exact k F H _ R (Sub.refl _) (.int _)⟩
  · split at h
    · cases h
      cases dx with
      | cons h1 h2 =>
        cases h2
        cases h1
        exact ⟨_, _, rfl, ⟨‹_›, rfl⟩, k F H _ R (Sub.refl _) (.int _)⟩
    · cases h
  · cases h
end
end DL
end

section
set_option Elab.async false
set_option linter.all false
set_option autoImplicit false
set_option maxRecDepth 100000
namespace DL
open PySem PySem.Spec L2
section
variable {K : PySem.W.Frag} {W : Wd} {fr : Fr} {F F' H H' : Hp} {σ σ' : St} {ρ ρ' : Env} {n n' : Int}
/-! ### slots stored -/
theorem set_get {ρ : Env} {i j : Nat} {x y : Sl} (h : (ρ.set i x)[j]? = some y) (ne : x ≠ y) : i ≠ j ∧ ρ[j]? = some y := by
  by_cases hj : i = j
  · subst hj
    by_cases hi : i < ρ.length
    · rw [List.getElem?_set_self hi] at h; cases h; exact absurd rfl ne
    · rw [List.getElem?_eq_none (by simpa using hi)] at h; cases h
  · rw [List.getElem?_set_ne hj] at h; exact ⟨hj, h⟩
theorem get_set_self {α : Type} {l : List α} {i : Nat} {a : α} (h : i < l.length) : (l.set i a)[i]? = some a := by simp [h]
theorem Rel.set (r : Rel K W fr F H σ ρ n) {i : Nat} {v : V} {d : D} (h : Den K W fr.dr F v d) : Rel K W fr F H (σ.set i (some v)) (ρ.set i (.val d)) n := by
  obtain ⟨ad, s⟩ := r.slots
  refine ⟨r.core, ad, by simp [s.len], fun j e q => ?_, fun j e q => ?_, fun j k e e' q q' => ?_, fun j o f q => ?_⟩
  rotate_left 3
  · obtain ⟨hj, q⟩ := set_get q (by simp)
    obtain ⟨h1, a, b, h2, h3, h4, h5, h6⟩ := s.mob j o f q
    exact ⟨h1, a, b, by rw [List.getElem?_set_ne (by rw [← h1]; exact hj)]; exact h2, h3, h4, h5, fun k e z => h6 k e (set_get z (by simp)).2⟩
  · by_cases hj : i = j
    · subst hj
      by_cases hi : i < ρ.length
      · rw [get_set_self hi] at q
        cases q
        exact ⟨v, get_set_self (by rw [s.len]; exact hi), h⟩
      · rw [List.getElem?_eq_none (by simpa using hi)] at q; cases q
    · rw [List.getElem?_set_ne hj] at q
      obtain ⟨u, h1, h2⟩ := s.val j e q
      exact ⟨u, by rw [List.getElem?_set_ne hj]; exact h1, h2⟩
  · by_cases hj : i = j
    · subst hj
      by_cases hi : i < ρ.length
      · rw [get_set_self hi] at q; cases q
      · rw [List.getElem?_eq_none (by simpa using hi)] at q; cases q
    · rw [List.getElem?_set_ne hj] at q
      obtain ⟨h1, h2⟩ := s.own j e q
      exact ⟨by rw [List.getElem?_set_ne hj]; exact h1, h2⟩
  · by_cases hj : i = j
    · subst hj
      by_cases hi : i < ρ.length
      · rw [get_set_self hi] at q; cases q
      · rw [List.getElem?_eq_none (by simpa using hi)] at q; cases q
    · by_cases hk : i = k
      · subst hk
        by_cases hi : i < ρ.length
        · rw [get_set_self hi] at q'; cases q'
        · rw [List.getElem?_eq_none (by simpa using hi)] at q'; cases q'
      · rw [List.getElem?_set_ne hj] at q
        rw [List.getElem?_set_ne hk] at q'
        exact s.inj j k e e' q q'
/-- a new object of one's own in a slot -/
theorem Rel.setOwn (r : Rel K W fr F H σ ρ n) {i : Nat} {p : Addr} {o : HO} {d : D} (hp : H p = none) (hd : isO d = false) (h : MDen K W fr.dr F (upd H p o) p d) : Rel K W fr F (upd H p o) (σ.set i (some (.ref p))) (ρ.set i (.own d)) n := by
  obtain ⟨ad, s⟩ := r.slots
  have hF := r.core.noF hp
  have kp : ∀ a u, H a = some u → upd H p o a = some u := fun a u q => by rw [upd_ne (ne_of_none q hp)]; exact q
  have old : ∀ (j : Nat) (e : D), ρ[j]? = some (.own e) → ad j ≠ p := fun j e q z => by
    obtain ⟨u, hu⟩ := (s.own j e q).2.2.2.2.1.there
    rw [z, hp] at hu; cases hu
  refine ⟨r.core.fresh' hp, fun j => if j = i then p else ad j, by simp [s.len], fun j e q => ?_, fun j e q => ?_, fun j k e e' q q' z => ?_, fun j o' f q => ?_⟩
  rotate_left 3
  · obtain ⟨hj, q⟩ := set_get q (by simp)
    obtain ⟨h1, a, b, h2, h3, h4, h5, h6⟩ := s.mob j o' f q
    have m := h3
    obtain ⟨m1, m2, m3, m4, m5, c, ks, ds, dx, vs, us, es, m6, m7, m8, m9, m10, m11, m12⟩ := m
    refine ⟨h1, a, b, by rw [List.getElem?_set_ne (by rw [← h1]; exact hj)]; exact h2, h3.keep (Sub.refl _) (fun u z _ => kp _ _ z) (fun u z _ => kp _ _ z) m1 m2, h4, h5, fun k e z => ?_⟩
    by_cases hk : k = i
    · simp only [if_pos hk]
      exact ⟨fun z => (by rw [← z, hp] at m8; cases m8), fun z => (by rw [← z, hp] at m10; cases m10)⟩
    · simp only [if_neg hk]
      rw [List.getElem?_set_ne (Ne.symm hk)] at z
      exact h6 k e z
  · by_cases hj : i = j
    · subst hj
      by_cases hi : i < ρ.length
      · rw [get_set_self hi] at q; cases q
      · rw [List.getElem?_eq_none (by simpa using hi)] at q; cases q
    · rw [List.getElem?_set_ne hj] at q
      obtain ⟨u, h1, h2⟩ := s.val j e q
      exact ⟨u, by rw [List.getElem?_set_ne hj]; exact h1, h2⟩
  · by_cases hj : i = j
    · subst hj
      by_cases hi : i < ρ.length
      · rw [get_set_self hi] at q
        cases q
        simp only [if_true]
        exact ⟨get_set_self (by rw [s.len]; exact hi), hF, r.core.ndr hp, .inl (r.core.noH0 hp), h, .inr ⟨hd, r.core.noH0 hp⟩⟩
      · rw [List.getElem?_eq_none (by simpa using hi)] at q; cases q
    · rw [List.getElem?_set_ne hj] at q
      obtain ⟨h1, h2, h3, h4, h5, h6⟩ := s.own j e q
      simp only [if_neg (Ne.symm hj)]
      exact ⟨by rw [List.getElem?_set_ne hj]; exact h1, h2, h3, h4, h5.mono (Sub.refl _) (fun u z => kp _ _ z), h6⟩
  · have len : ∀ {j : Nat} {e : D}, (ρ.set i (Sl.own d))[j]? = some (Sl.own e) → j ≠ i → ρ[j]? = some (Sl.own e) := fun {j e} q hj => by
      rw [List.getElem?_set_ne (Ne.symm hj)] at q; exact q
    by_cases hj : j = i
    · by_cases hk : k = i
      · rw [hj, hk]
      · simp only [if_pos hj, if_neg hk] at z
        exact absurd z.symm (old k e' (len q' hk))
    · by_cases hk : k = i
      · simp only [if_neg hj, if_pos hk] at z
        exact absurd z (old j e (len q hj))
      · simp only [if_neg hj, if_neg hk] at z
        exact s.inj j k e e' (len q hj) (len q' hk) z
/-- what is one's own, changed -/
theorem Rel.change (r : Rel K W fr F H σ ρ n) {i : Nat} {d d' : D} {o : HO} {ad : Nat → Addr} (s : Slots K W fr F H σ ρ ad) (hi : ρ[i]? = some (.own d)) (h : MDen K W fr.dr F (upd H (ad i) o) (ad i) d') (hd : isO d' = isO d) : Rel K W fr F (upd H (ad i) o) σ (ρ.set i (.own d')) n := by
  obtain ⟨h1, h2, h3, h4, h5, h6⟩ := s.own i d hi
  have hlt : i < ρ.length := (List.getElem?_eq_some_iff.mp hi).1
  have c := r.core
  have core : Core K W fr F (upd H (ad i) o) n := {
    sub := fun a u q => by rw [upd_ne (ne_of_none q h2)]; exact c.sub _ _ q
    base := fun a u q q2 q3 => by
      have ne : a ≠ ad i := fun z => by
        subst z
        rcases h4 with h4 | h4
        · rw [h4] at q; cases q
        · exact q3 h4
      rw [upd_ne ne]; exact c.base a u q q2 q3
    f0 := c.f0
    new := c.new
    there := fun a u q => by
      by_cases e : a = ad i
      · rw [e]; exact ⟨_, upd_same, (h.pl upd_same).1⟩
      · obtain ⟨o', z, nt⟩ := c.there a u q
        exact ⟨o', by rw [upd_ne e]; exact z, nt⟩
    draw := fun a e => by
      obtain ⟨q1, q2, q3⟩ := c.draw a e
      have ne : a ≠ ad i := fun z => h3 (by rw [← z]; exact e)
      exact ⟨q1, by rw [upd_ne ne]; exact q2, q3⟩
    ntF := c.ntF
    tabs := tabs_keep c.tabs fun a u q sd => by
      have ne : a ≠ ad i := fun z => by subst z; exact (h5.pl q).2 sd
      rw [upd_ne ne]; exact q }
  refine ⟨core, ad, by simp [s.len], fun j e q => ?_, fun j e q => ?_, fun j k e e' q q' z => ?_, fun j o' f q => ?_⟩
  rotate_left 3
  · obtain ⟨hj, q⟩ := set_get q (by simp)
    obtain ⟨k1, a, b, k2, k3, k4, k5, k6⟩ := s.mob j o' f q
    have m := k3
    obtain ⟨m1, m2, m3, m4, m5, _⟩ := m
    obtain ⟨n1, n2⟩ := k6 i d hi
    refine ⟨k1, a, b, k2, k3.keep (Sub.refl _) (fun u z _ => by rw [upd_ne (Ne.symm n1)]; exact z) (fun u z _ => by rw [upd_ne (Ne.symm n2)]; exact z) m1 m2, k4, k5, fun k e z => ?_⟩
    by_cases hk : i = k
    · subst hk; exact ⟨n1, n2⟩
    · rw [List.getElem?_set_ne hk] at z; exact k6 k e z
  · by_cases hj : i = j
    · subst hj; rw [get_set_self hlt] at q; cases q
    · rw [List.getElem?_set_ne hj] at q
      exact s.val j e q
  · by_cases hj : i = j
    · subst hj
      rw [get_set_self hlt] at q
      cases q
      exact ⟨h1, h2, h3, h4, h, by rw [hd]; exact h6⟩
    · rw [List.getElem?_set_ne hj] at q
      obtain ⟨q1, q2, q3, q4, q5, q6⟩ := s.own j e q
      refine ⟨q1, q2, q3, q4, q5.mono (Sub.refl _) fun u z => ?_, q6⟩
      have ne : ad j ≠ ad i := fun w => hj (s.inj i j d e hi q w.symm)
      rw [upd_ne ne]; exact z
  · have key : ∀ {j : Nat} {e : D}, (ρ.set i (Sl.own d'))[j]? = some (Sl.own e) → ∃ e', ρ[j]? = some (Sl.own e') := fun {j e} q => by
      by_cases hj : i = j
      · subst hj; exact ⟨_, hi⟩
      · rw [List.getElem?_set_ne hj] at q; exact ⟨_, q⟩
    obtain ⟨a, qa⟩ := key q
    obtain ⟨b, qb⟩ := key q'
    exact s.inj j k a b qa qb z
/-- one's own, given out -/
def frz (i : Nat) (ρ : Env) : Env := match ρ[i]? with
  | some (.own d) => ρ.set i (.val d)
  | _ => ρ
def dctD : D → Bool
  | .dic _ _ => true
  | .dit _ _ => true
  | _ => false
theorem Rel.freezeG (r : Rel K W fr F H σ ρ n) {i : Nat} {d : D} {ad : Nat → Addr} (s : Slots K W fr F H σ ρ ad) (hi : ρ[i]? = some (.own d)) (hx : fr.H0 (ad i) = none) {o o' : HO} (ho : H (ad i) = some o) (no : NT o') (den : Sub F (upd F (ad i) o') → Den K W fr.dr (upd F (ad i) o') (.ref (ad i)) d) : Sub F (upd F (ad i) o') ∧ Rel K W fr (upd F (ad i) o') (upd H (ad i) o') σ (ρ.set i (.val d)) n := by
  obtain ⟨h1, h2, h3, h4, h5, h6⟩ := s.own i d hi
  have hlt : i < ρ.length := (List.getElem?_eq_some_iff.mp hi).1
  have c := r.core
  have up : Sub F (upd F (ad i) o') := fun a u q => by rw [upd_ne (ne_of_none q h2)]; exact q
  have kp : ∀ a u, a ≠ ad i → H a = some u → upd H (ad i) o' a = some u := fun a u ne q => by rw [upd_ne ne]; exact q
  have core : Core K W fr (upd F (ad i) o') (upd H (ad i) o') n := {
    sub := fun a u q => by
      by_cases e : a = ad i
      · rw [e, upd_same] at q; rw [e, upd_same]; exact q
      · rw [upd_ne e] at q; exact kp _ _ e (c.sub _ _ q)
    base := fun a u q q2 q3 => kp _ _ (ne_of_none q hx) (c.base a u q q2 q3)
    f0 := c.f0.trans up
    new := fun a u q q2 => by
      have e : a ≠ ad i := ne_of_none q hx
      rw [upd_ne e]; exact c.new a u q q2
    there := fun a u q => by
      obtain ⟨v, q1, q2⟩ := c.there a u q
      exact ⟨v, kp _ _ (ne_of_none q hx) q1, q2⟩
    draw := fun a e => by
      obtain ⟨q1, q2, q3⟩ := c.draw a e
      have ne : a ≠ ad i := fun z => h3 (by rw [← z]; exact e)
      exact ⟨by rw [upd_ne ne]; exact q1, kp _ _ ne q2, up.sqL q3⟩
    ntF := fun a u q => by
      by_cases e : a = ad i
      · rw [e, upd_same] at q; cases q; exact no
      · rw [upd_ne e] at q; exact c.ntF a u q
    tabs := tabs_keep c.tabs fun a u q sd => kp _ _ (fun z => by subst z; exact (h5.pl q).2 sd) q }
  have den := den up
  refine ⟨up, core, ad, by simp [s.len], fun j e q => ?_, fun j e q => ?_, fun j k e e' q q' z => ?_, fun j o' f q => ?_⟩
  rotate_left 3
  · obtain ⟨hj, q⟩ := set_get q (by simp)
    obtain ⟨k1, a, b, k2, k3, k4, k5, k6⟩ := s.mob j o' f q
    have m := k3
    obtain ⟨m1, m2, m3, m4, m5, _⟩ := m
    obtain ⟨n1, n2⟩ := k6 i d hi
    exact ⟨k1, a, b, k2, k3.keep up (fun u z _ => kp _ _ (Ne.symm n1) z) (fun u z _ => kp _ _ (Ne.symm n2) z) (by rw [upd_ne (Ne.symm n1)]; exact m1) (by rw [upd_ne (Ne.symm n2)]; exact m2), k4, k5, fun k e z => k6 k e (set_get z (by simp)).2⟩
  · by_cases hj : i = j
    · subst hj; rw [get_set_self hlt] at q; cases q
      exact ⟨_, h1, den⟩
    · rw [List.getElem?_set_ne hj] at q
      obtain ⟨v, q1, q2⟩ := s.val j e q
      exact ⟨v, q1, q2.mono up fun _ z => z⟩
  · by_cases hj : i = j
    · subst hj; rw [get_set_self hlt] at q; cases q
    · rw [List.getElem?_set_ne hj] at q
      obtain ⟨q1, q2, q3, q4, q5, q6⟩ := s.own j e q
      have ne : ad j ≠ ad i := fun w => hj (s.inj i j d e hi q w.symm)
      exact ⟨q1, by rw [upd_ne ne]; exact q2, q3, q4, q5.mono up fun u z => kp _ _ ne z, q6⟩
  · by_cases hj : i = j
    · subst hj; rw [get_set_self hlt] at q; cases q
    · by_cases hk : i = k
      · subst hk; rw [get_set_self hlt] at q'; cases q'
      · rw [List.getElem?_set_ne hj] at q
        rw [List.getElem?_set_ne hk] at q'
        exact s.inj j k e e' q q' z
theorem upd_id {H : Hp} {a : Addr} {o : HO} (h : H a = some o) : upd H a o = H := funext fun b => by
  by_cases e : b = a
  · rw [e, upd_same, h]
  · rw [upd_ne e]
theorem Rel.freeze (r : Rel K W fr F H σ ρ n) {i : Nat} {d : D} {ad : Nat → Addr} (s : Slots K W fr F H σ ρ ad) (hi : ρ[i]? = some (.own d)) (hx : fr.H0 (ad i) = none) (nd : dctD d = false) : ∃ F', Sub F F' ∧ Rel K W fr F' H σ (ρ.set i (.val d)) n := by
  obtain ⟨h1, h2, h3, h4, h5, h6⟩ := s.own i d hi
  obtain ⟨o, ho⟩ := h5.there
  have q := r.freezeG s hi hx (o' := o) ho (h5.pl ho).1 fun up => by
    cases d with
    | lst ds => obtain ⟨vs, e, q⟩ := h5; rw [ho] at e; cases e; exact .lst upd_same (q.mono up fun _ z => z)
    | dic ks ds => cases nd
    | dit ks ds => cases nd
    | obj c ks ds => obtain ⟨dx, vs, l, e, q⟩ := h5; rw [ho] at e; cases e; exact .obj l upd_same (q.mono up fun _ z => z)
    | non => exact h5.elim
    | bl _ => exact h5.elim
    | int _ => exact h5.elim
    | str _ => exact h5.elim
    | tup _ => exact h5.elim
    | drw => exact h5.elim
    | scr => exact h5.elim
    | rng _ _ => exact h5.elim
    | odd _ _ => exact h5.elim
  rw [upd_id ho] at q
  exact ⟨_, q.1, q.2⟩
/-- a dict given out is locked -/
theorem Rel.freezeD (r : Rel K W fr F H σ ρ n) {i : Nat} {d : D} {ad : Nat → Addr} (s : Slots K W fr F H σ ρ ad) (hi : ρ[i]? = some (.own d)) (hx : fr.H0 (ad i) = none) (nd : dctD d = true) : ∃ o, H (ad i) = some o ∧ Mut (some o) ∧ ∀ od : Obj, Sub F (upd F (ad i) (.frz od o)) ∧ Rel K W fr (upd F (ad i) (.frz od o)) (upd H (ad i) (.frz od o)) σ (ρ.set i (.val d)) n := by
  obtain ⟨h1, h2, h3, h4, h5, h6⟩ := s.own i d hi
  obtain ⟨o, ho⟩ := h5.there
  refine ⟨o, ho, ?_, fun od => r.freezeG s hi hx (o' := .frz od o) ho (fun _ z => by cases z) fun up => ?_⟩
  · cases d with
    | dic ks ds => obtain ⟨vs, l, e, q⟩ := h5; rw [ho] at e; cases e; trivial
    | dit ks ds => obtain ⟨vs, l, e, q⟩ := h5; rw [ho] at e; cases e; trivial
    | _ => cases nd
  · cases d with
    | dic ks ds => obtain ⟨vs, l, e, q⟩ := h5; rw [ho] at e; cases e; exact .dic l ⟨_, upd_same⟩ (q.mono up fun _ z => z)
    | dit ks ds => obtain ⟨vs, l, e, q⟩ := h5; rw [ho] at e; cases e; exact .dit l ⟨_, upd_same⟩ (q.mono up fun _ z => z)
    | _ => cases nd
end

/-! ### targets -/
abbrev GX := D → Env → Option Env
abbrev GXs := List D → Env → Option Env
def gV (i : Nat) : GX := fun d ρ => some (ρ.set i (.val d))
def gsN : GXs := fun ds ρ => match ds with | [] => some ρ | _ => none
def gsC (g : GX) (gs : GXs) : GXs := fun ds ρ => match ds with
  | [] => none
  | d :: r => (g d ρ).bind fun ρ1 => gs r ρ1
def gT (gs : GXs) : GX := fun d ρ => match d with | .tup ds => gs ds ρ | _ => none
theorem wipe_get (σ : St) (j : Nat) : ∀ vs : List Nat, (wipe σ vs)[j]? = if j ∈ vs then (if j < σ.length then some none else none) else σ[j]?
  | [] => by simp [wipe]
  | v :: vs => by
    unfold wipe
    by_cases hj : v = j
    · subst hj
      rw [if_pos List.mem_cons_self]
      by_cases hl : v < σ.length
      · rw [if_pos hl, get_set_self (by rw [wipe_length]; exact hl)]
      · rw [if_neg hl, List.getElem?_eq_none (by rw [List.length_set, wipe_length]; omega)]
    · rw [List.getElem?_set_ne hj, wipe_get σ j vs]
      have : (j ∈ v :: vs) = (j ∈ vs) := by simp [Ne.symm hj]
      simp only [this]
/-- the slots is alone have changed -/
def Wip (is : List Nat) (σ σ' : St) : Prop := ∀ vs : List Nat, (∀ i ∈ is, i ∈ vs) → wipe σ' vs = wipe σ vs
theorem Wip.refl (is : List Nat) (σ : St) : Wip is σ σ := fun _ _ => rfl
theorem Wip.trans {is : List Nat} {σ σ1 σ2 : St} (a : Wip is σ σ1) (b : Wip is σ1 σ2) : Wip is σ σ2 := fun vs h => (b vs h).trans (a vs h)
theorem Wip.mono {is js : List Nat} {σ σ1 : St} (a : Wip is σ σ1) (h : ∀ i ∈ is, i ∈ js) : Wip js σ σ1 := fun vs k => a vs fun i hi => k i (h i hi)
theorem Wip.set (σ : St) (i : Nat) (x : Option V) : Wip [i] σ (σ.set i x) := fun vs h => by
  have hi : i ∈ vs := h i (by simp)
  apply List.ext_getElem?
  intro j
  rw [wipe_get, wipe_get, List.length_set]
  by_cases hj : j ∈ vs
  · rw [if_pos hj, if_pos hj]
  · rw [if_neg hj, if_neg hj, List.getElem?_set_ne (fun e => hj (by rw [← e]; exact hi))]
theorem wipe_wipe (σ : St) (vs : List Nat) : wipe (wipe σ vs) vs = wipe σ vs := by
  apply List.ext_getElem?
  intro j
  rw [wipe_get, wipe_get, wipe_length]
  by_cases hj : j ∈ vs
  · rw [if_pos hj, if_pos hj]
  · rw [if_neg hj, if_neg hj]
/-- a target over data -/
def GOk (K : PySem.W.Frag) (W : Wd) (t : TG) (g : GX) (is : List Nat) : Prop := ∀ (fr : Fr) (F H : Hp) (σ : St) (ρ ρ' : Env) (n : Int) (v : V) (d : D) (Q : St → Hp → Prop), Rel K W fr F H σ ρ n → Den K W fr.dr F v d → g d ρ = some ρ' →
  (∀ σ', Rel K W fr F H σ' ρ' n → Wip is σ σ' → Q σ' H) → t v σ H Q
def GsOk (K : PySem.W.Frag) (W : Wd) (t : TGs) (g : GXs) (is : List Nat) : Prop := ∀ (fr : Fr) (F H : Hp) (σ : St) (ρ ρ' : Env) (n : Int) (vs : List V) (ds : List D) (Q : St → Hp → Prop), Rel K W fr F H σ ρ n → Dens K W fr.dr F vs ds → g ds ρ = some ρ' →
  (∀ σ', Rel K W fr F H σ' ρ' n → Wip is σ σ' → Q σ' H) → t vs σ H Q
section
variable {K : PySem.W.Frag} {W : Wd}
theorem q_gV (i : Nat) : GOk K W (gName i) (gV i) [i] := fun fr F H σ ρ ρ' n v d Q R hd e k => by
  cases e
  exact k _ (R.set hd) (Wip.set _ _ _)
theorem q_gsN : GsOk K W gNil gsN [] := fun fr F H σ ρ ρ' n vs ds Q R hd e k => by
  unfold gsN at e
  split at e
  · cases e; cases hd; exact ⟨rfl, k _ R (Wip.refl _ _)⟩
  · cases e
theorem q_gsC {t : TG} {u : TGs} {g : GX} {gs : GXs} {is js : List Nat} (h : GOk K W t g is) (h' : GsOk K W u gs js) : GsOk K W (gCons t u) (gsC g gs) (is ++ js) := fun fr F H σ ρ ρ' n vs ds Q R hd e k => by
  unfold gsC at e
  split at e
  · cases e
  · cases hd with
    | cons h1 h2 =>
      cases q : g _ ρ with
      | none => rw [q] at e; cases e
      | some ρ1 =>
        rw [q] at e
        exact ⟨_, _, rfl, h fr F H σ ρ ρ1 n _ _ _ R h1 q fun σ' R' w1 => h' fr F H σ' ρ1 ρ' n _ _ Q R' h2 e fun σ2 R2 w2 => k σ2 R2 ((w1.mono fun i hi => List.mem_append_left _ hi).trans (w2.mono fun i hi => List.mem_append_right _ hi))⟩
/-- how many targets -/
def GLen (g : GXs) (m : Nat) : Prop := ∀ ds ρ ρ', g ds ρ = some ρ' → ds.length = m
theorem gl_N : GLen gsN 0 := fun ds ρ ρ' e => by
  unfold gsN at e
  split at e
  · rfl
  · cases e
theorem gl_C {g : GX} {gs : GXs} {m : Nat} (h : GLen gs m) : GLen (gsC g gs) (m + 1) := fun ds ρ ρ' e => by
  unfold gsC at e
  split at e
  · cases e
  · cases q : g _ ρ with
    | none => rw [q] at e; cases e
    | some ρ1 =>
      rw [q] at e
      simp [h _ _ _ e]
theorem q_gT {u : TGs} {gs : GXs} {m : Nat} {is : List Nat} (h : GsOk K W u gs is) (l : GLen gs m) : GOk K W (gTup K m u) (gT gs) is := fun fr F H σ ρ ρ' n v d Q R hd e k => by
  unfold gT at e
  split at e
  · cases hd with
    | tup h1 h2 => exact ⟨_, _, rfl, R.core.sub.sqT h1, by rw [h2.length]; exact l _ _ _ e, h fr F H σ ρ ρ' n _ _ Q R h2 e k⟩
  · cases e
end

/-! ### statements -/
section
variable {X : Cx} {W : Wd}
def sNx : SX := fun ρ => M.pure (.nx ρ)
def sSeq (g h : SX) : SX := fun ρ => M.bind (g ρ) fun o => match o with
  | .nx ρ' => h ρ'
  | .bk ρ' => M.pure (.bk ρ')
  | .ct ρ' => M.pure (.ct ρ')
  | .ret d => M.pure (.ret d)
  | .rn ρ' => M.pure (.rn ρ')
def sRet (f : EX) : SX := fun ρ => M.bind (f ρ) fun d => M.pure (.ret d)
def sExp (f : EX) : SX := fun ρ => M.bind (f ρ) fun _ => M.pure (.nx ρ)
def sAsg (g : GX) (f : EX) : SX := fun ρ => M.bind (f ρ) fun d => M.bind (M.opt (g d ρ)) fun ρ' => M.pure (.nx ρ')
def sIf (t : TX) (g h : SX) : SX := fun ρ => M.bind (t ρ) fun b => match b with | true => g ρ | false => h ρ
theorem S_nil : PDSs X W [] sNx := imp_Ss pss_nil fun E σ H ⟨fr, F, ρ, n, r, n', R, e, k⟩ => by
  rcases r with z | o
  · exact (M.pure_err e).elim
  obtain ⟨h1, h2⟩ := M.pure_ok e
  subst h1 h2
  exact k F H σ R (Sub.refl _)
theorem S_pass {pos : Pos} : PDS X W (.Pass pos) sNx := imp_S ps_pass fun E σ H ⟨fr, F, ρ, n, r, n', R, e, k⟩ => by
  rcases r with z | o
  · exact (M.pure_err e).elim
  obtain ⟨h1, h2⟩ := M.pure_ok e
  subst h1 h2
  exact k F H σ R (Sub.refl _)
theorem S_one {st : Stmt} {g : SX} (h : PDS X W st g) : PDSs X W [st] g := pss_one h
theorem S_cons {st : Stmt} {r : List Stmt} {g h : SX} (hg : PDS X W st g) (hh : PDSs X W r h) : PDSs X W (st :: r) (sSeq g h) := imp_Ss (pss_cons hg hh) fun E σ H ⟨fr, F, ρ, n, r, n', R, e, k⟩ => by
  rcases r with z | o
  · refine R.sE e k fun o1 n1 e1 h => ?_
    cases o1 with
    | nx ρ1 => exact fun F1 H1 σ1 R1 s1 => ⟨fr, F1, ρ1, n1, .error z, n', R1, h, KS.mono k s1⟩
    | bk ρ1 => exact (M.pure_err h).elim
    | ct ρ1 => exact (M.pure_err h).elim
    | ret d => exact (M.pure_err h).elim
    | rn ρ1 => exact (M.pure_err h).elim
  obtain ⟨o1, n1, e1, h⟩ := M.bind_ok e
  refine ⟨fr, F, ρ, n, .ok o1, n1, R, e1, ?_⟩
  cases o1 with
  | nx ρ1 => exact fun F1 H1 σ1 R1 s1 => ⟨fr, F1, ρ1, n1, .ok o, n', R1, h, k.mono s1⟩
  | bk ρ1 =>
    obtain ⟨h1, h2⟩ := M.pure_ok h
    subst h1 h2
    exact k
  | ct ρ1 =>
    obtain ⟨h1, h2⟩ := M.pure_ok h
    subst h1 h2
    exact k
  | ret d =>
    obtain ⟨h1, h2⟩ := M.pure_ok h
    subst h1 h2
    exact k
  | rn ρ1 =>
    obtain ⟨h1, h2⟩ := M.pure_ok h
    subst h1 h2
    exact k
theorem S_ret {e : Expr} {f : EX} {pos : Pos} (he : PD X W e f) : PDS X W (.Return (some e) pos) (sRet f) := imp_S (ps_ret he) fun E σ H ⟨fr, F, ρ, n, r, n', R, e, k⟩ => by
  rcases r with z | o
  · exact R.dE e (KS.x k) fun _ _ _ _ _ _ h _ _ _ => (M.pure_err h).elim
  obtain ⟨x, n1, e1, h⟩ := M.bind_ok e
  obtain ⟨h1, h2⟩ := M.pure_ok h
  subst h1 h2
  exact ⟨fr, F, ρ, n, .ok x, _, R, e1, fun F1 H1 v R1 s1 d1 => k F1 H1 v R1.core s1 d1⟩
theorem S_exp {e : Expr} {f : EX} {pos : Pos} (he : PD X W e f) (hs : swapsWith e none pos.line X.env = pure false := by rfl) : PDS X W (.Expr e pos) (sExp f) := imp_S (ps_expr he hs) fun E σ H ⟨fr, F, ρ, n, r, n', R, e, k⟩ => by
  rcases r with z | o
  · exact R.dE e (KS.x k) fun _ _ _ _ _ _ h _ _ _ => (M.pure_err h).elim
  obtain ⟨x, n1, e1, h⟩ := M.bind_ok e
  obtain ⟨h1, h2⟩ := M.pure_ok h
  subst h1 h2
  exact ⟨fr, F, ρ, n, .ok x, _, R, e1, fun F1 H1 v R1 s1 d1 => k F1 H1 σ R1 s1⟩
theorem S_asg {tg e : Expr} {f : EX} {t : TG} {g : GX} {pos : Pos} (he : PD X W e f) (ht : PG X tg t) {is : List Nat} (hg : GOk X.K W t g is) (hs : swapsWithSole [tg] e pos.line X.env = pure false := by rfl) (hw : swappedStores [tg] e X.env = pure none := by rfl)
    (h1 : (assignEach [tg] X.env).map (·.2) = [assign tg X.env] := by rfl) : PDS X W (.Assign [tg] e pos) (sAsg g f) := imp_S (ps_asg he ht hs hw h1) fun E σ H ⟨fr, F, ρ, n, r, n', R, e, k⟩ => by
  rcases r with z | o
  · refine R.dE e (KS.x k) fun _ _ _ _ _ _ h _ _ _ => ?_
    rcases M.bind_err h with h | ⟨_, _, _, h⟩
    · exact (M.opt_err h).elim
    · exact (M.pure_err h).elim
  obtain ⟨x, n1, e1, ha⟩ := M.bind_ok e
  obtain ⟨ρ', n2, e2, h⟩ := M.bind_ok ha
  obtain ⟨h1, h2⟩ := M.pure_ok h
  obtain ⟨h3, h4⟩ := M.opt_ok e2
  clear ha h
  subst h4
  subst h1 h2
  exact ⟨fr, F, ρ, n, .ok x, _, R, e1, fun F1 H1 v R1 s1 d1 => hg fr F1 H1 σ ρ ρ' _ v x _ R1 d1 h3 fun σ' R' _ => k F1 H1 σ' R' s1⟩
theorem S_if {c : Expr} {a b : List Stmt} {t : TX} {g h : SX} {pos : Pos} (hc : PDT X W c t) (ha : PDSs X W a g) (hb : PDSs X W b h) : PDS X W (.If c a b pos) (sIf t g h) := imp_S (ps_if hc ha hb) fun E σ H ⟨fr, F, ρ, n, r, n', R, e, k⟩ => by
  rcases r with z | o
  · refine R.tE e (KS.x k) fun b n1 F1 H1 e1 h R1 s1 => ?_
    cases b with
    | true =>
      rw [if_pos rfl]
      exact ⟨fr, F1, ρ, n1, .error z, n', R1, h, KS.mono k s1⟩
    | false =>
      rw [if_neg Bool.false_ne_true]
      exact ⟨fr, F1, ρ, n1, .error z, n', R1, h, KS.mono k s1⟩
  obtain ⟨b, n1, e1, h⟩ := M.bind_ok e
  refine ⟨fr, F, ρ, n, .ok b, n1, R, e1, fun F1 H1 R1 s1 => ?_⟩
  cases b with
  | true =>
    rw [if_pos rfl]
    exact ⟨fr, F1, ρ, n1, .ok o, n', R1, h, k.mono s1⟩
  | false =>
    rw [if_neg Bool.false_ne_true]
    exact ⟨fr, F1, ρ, n1, .ok o, n', R1, h, k.mono s1⟩
/-- a, b = x, y and a, b, c = x, y, z, all plain locals -/
def sPar (is : List Nat) (f : EXs) : SX := fun ρ => M.bind (f ρ) fun ds => if ds.length = is.length then M.pure (.nx ((is.zip ds).foldl (fun r p => r.set p.1 (.val p.2)) ρ)) else M.opt none
theorem S_par2 {i j : Nat} {x y : Str} {a b : Expr} {f : EXs} {px py pt pos : Pos} {kt k2 pt2} (h : PS X (.Assign [.Tuple [.Name x px, .Name y py] kt pt] (.Tuple [a, b] k2 pt2) pos) (tPar i j (tDs X W f))) : PDS X W (.Assign [.Tuple [.Name x px, .Name y py] kt pt] (.Tuple [a, b] k2 pt2) pos) (sPar [i, j] f) := imp_S h fun E σ H ⟨fr, F, ρ, n, r, n', R, e, k⟩ => by
  rcases r with z | o
  · refine R.dsE e (KS.x k) fun _ _ _ _ _ _ h _ _ _ => ?_
    split at h
    · exact (M.pure_err h).elim
    · exact (M.opt_err h).elim
  obtain ⟨ds, n1, e1, h⟩ := M.bind_ok e
  refine ⟨fr, F, ρ, n, .ok ds, n1, R, e1, fun F1 H1 vs R1 s1 d1 => ?_⟩
  split at h
  · obtain ⟨h1, h2⟩ := M.pure_ok h
    subst h1 h2
    cases d1 with
    | nil => simp at *
    | cons q1 d2 =>
      cases d2 with
      | nil => simp at *
      | cons q2 d3 =>
        cases d3 with
        | cons _ _ => simp at *
        | nil => exact ⟨_, _, rfl, k F1 H1 _ ((R1.set q1).set q2) s1⟩
  · cases (M.opt_ok h).1
end

/-! ### loops -/
section
variable {X : Cx} {W : Wd}
/-- an iterator that hands on ds -/
def ItOk (K : PySem.W.Frag) (W : Wd) (dr : Option Addr) (F0 : Hp) (J : It) (ds : List D) : Prop := ∀ (fr : Fr) (F H : Hp) (σ : St) (ρ : Env) (n : Int) (i : Nat), fr.dr = dr → Rel K W fr F H σ ρ n → Sub F0 F →
  (∀ d, ds[i]? = some d → J.go i H ∧ ∀ x H', J.yld i H x H' → ∃ F', Rel K W fr F' H' σ ρ n ∧ Sub F F' ∧ Den K W dr F' x d) ∧ (i = ds.length → J.stop i H)
abbrev IX := Env → M (List D)
def tI (X : Cx) (W : Wd) (f : IX) : TI := fun σ H R => ∃ fr F ρ n r n', Rel X.K W fr F H σ ρ n ∧ f ρ n = some (r, n') ∧
  Res (fun ds => ∀ F' H' J, Rel X.K W fr F' H' σ ρ n' → Sub F F' → ItOk X.K W fr.dr F' J ds → R J H') (KX X W fr F σ ρ n') r
abbrev PDI (X : Cx) (W : Wd) (tg e : Expr) (f : IX) : Prop := PI X tg e (tI X W f)
theorem imp_I {tg e : Expr} {t t' : TI} (h : PI X tg e t) (k : ∀ σ H R, t' σ H R → t σ H R) : PI X tg e t' := ⟨fun pins s σ H R I q => h.run pins s σ H R I (k σ H R q)⟩
def iSeq (K : PySem.W.Frag) (tl : TE) : TI := fun σ H R => tl σ H fun x H1 => ∃ a, x = .ref a ∧ (((∃ xs, SqL K H1 a xs) ∧ R (Itl K a) H1) ∨ ((∃ xs, SqT K H1 a xs) ∧ R (Itt K a) H1))
theorem pi_seq {tg l : Expr} {tl : TE} (hl : PE X l tl) : PI X tg l (iSeq X.K tl) := by
  refine ⟨fun pins s σ H R I h => ?_⟩
  refine thn (hl.run pins s σ H _ I h) fun v s1 ⟨x, H1, I1, r1, q1⟩ => ?_
  obtain ⟨a, e, q⟩ := q1
  subst e
  cases r1
  rcases q with ⟨⟨xs, hq⟩, q⟩ | ⟨⟨xs, hq⟩, q⟩
  · obtain ⟨its, rv, p, hz⟩ := I1.list hq
    refine wpAny_pyIter_list p.isList ?_
    refine ⟨s1.heap.objs.size, [s1.heap.objs.size], _, _, H1, rfl, I1.kept (t' := s1.toks) fun b o e => Heap.get?_push_of_some _ e, turn_list a _, ⟨_, Heap.get?_push_size _ rfl, rfl, rfl⟩, fun b hb => ?_, q⟩
    have e : b = s1.heap.objs.size := by simpa using hb
    subst e
    exact I1.fpOk (Nat.le_refl _) (I1.hok.fresh (Nat.le_refl _))
  · obtain ⟨its, rv, p, hz⟩ := I1.tuple hq
    refine wpAny_pyIter_tuple (show s1.heap.IsTuple a its.toArray from p) ?_
    refine ⟨s1.heap.objs.size, [s1.heap.objs.size], _, _, H1, rfl, I1.kept (t' := s1.toks) fun b o e => Heap.get?_push_of_some _ e, turn_tuple a _, ⟨_, Heap.get?_push_size _ rfl, rfl, rfl⟩, fun b hb => ?_, q⟩
    have e : b = s1.heap.objs.size := by simpa using hb
    subst e
    exact I1.fpOk (Nat.le_refl _) (I1.hok.fresh (Nat.le_refl _))
def dItems : D → Option (List D)
  | .tup xs => some xs
  | .lst xs => some xs
  | .scr => none
  | _ => none
def iOf (f : EX) : IX := fun ρ => M.bind (f ρ) fun d => M.opt (dItems d)
theorem it_list {K : PySem.W.Frag} {dr : Option Addr} {F0 : Hp} {a : Addr} {vs : List V} {ds : List D} (h : F0 a = some (.lst vs)) (hd : Dens K W dr F0 vs ds) : ItOk K W dr F0 (Itl K a) ds := fun fr F H σ ρ n i edr R s => by
  have hH : H a = some (.lst vs) := R.core.sub _ _ (s _ _ h)
  refine ⟨fun d e => ?_, fun e => ⟨vs, SqL.of hH, by rw [hd.length, e]; exact Nat.le_refl _⟩⟩
  obtain ⟨v, e1, e2⟩ := hd.get e
  refine ⟨⟨vs, v, SqL.of hH, e1⟩, fun x H' ⟨q1, q2⟩ => ?_⟩
  subst q1
  have := q2 vs (SqL.of hH)
  rw [e1] at this
  cases this
  exact ⟨F, R, Sub.refl _, e2.mono s fun _ z => z⟩
theorem it_tup {K : PySem.W.Frag} {dr : Option Addr} {F0 : Hp} {a : Addr} {vs : List V} {ds : List D} (h : SqT K F0 a vs) (hd : Dens K W dr F0 vs ds) : ItOk K W dr F0 (Itt K a) ds := fun fr F H σ ρ n i edr R s => by
  have hH : SqT K H a vs := R.core.sub.sqT (s.sqT h)
  refine ⟨fun d e => ?_, fun e => ⟨vs, hH, by rw [hd.length, e]; exact Nat.le_refl _⟩⟩
  obtain ⟨v, e1, e2⟩ := hd.get e
  refine ⟨⟨vs, v, hH, e1⟩, fun x H' ⟨q1, q2⟩ => ?_⟩
  subst q1
  have := q2 vs hH
  rw [e1] at this
  cases this
  exact ⟨F, R, Sub.refl _, e2.mono s fun _ z => z⟩
theorem i_of {tg l : Expr} {f : EX} (h : PD X W l f) : PDI X W tg l (iOf f) := imp_I (pi_seq h) fun σ H R ⟨fr, F, ρ, n, r, n', R0, e, k⟩ => by
  rcases r with z | ds
  · exact R0.dE1 e k
  obtain ⟨x, n1, e1, h⟩ := M.bind_ok e
  obtain ⟨h1, h2⟩ := M.opt_ok h
  subst h2
  refine ⟨fr, F, ρ, n, .ok x, _, R0, e1, fun F1 H1 v R1 s1 d1 => ?_⟩
  unfold dItems at h1
  split at h1
  · cases h1
    cases d1 with
    | tup q1 q2 => exact ⟨_, rfl, .inr ⟨⟨_, R1.core.sub.sqT q1⟩, k F1 H1 _ R1 s1 (it_tup q1 q2)⟩⟩
  · cases h1
    cases d1 with
    | lst q1 q2 => exact ⟨_, rfl, .inl ⟨⟨_, SqL.of (R1.core.sub _ _ q1)⟩, k F1 H1 _ R1 s1 (it_list q1 q2)⟩⟩
  · cases h1
  · cases h1
/-- range -/
def rngD (lo hi : Int) : List D := (List.range (hi - lo).toNat).map fun i => .int (lo + (i : Nat))
theorem it_rng {K : PySem.W.Frag} {dr : Option Addr} {F0 : Hp} {lo hi : Int} : ItOk K W dr F0 (Itr lo (hi - lo).toNat) (rngD lo hi) := fun fr F H σ ρ n i edr R s => by
  have hl : (rngD lo hi).length = (hi - lo).toNat := by simp [rngD]
  refine ⟨fun d e => ?_, fun e => by show (hi - lo).toNat ≤ i; rw [e, hl]; exact Nat.le_refl _⟩
  have hi' : i < (hi - lo).toNat := by
    have := (List.getElem?_eq_some_iff.mp e).1
    omega
  refine ⟨hi', fun x H' ⟨q1, q2⟩ => ?_⟩
  subst q1 q2
  refine ⟨F, R, Sub.refl _, ?_⟩
  have : d = .int (lo + (i : Nat)) := by
    simp [rngD, hi'] at e
    exact e.symm
  rw [this]
  exact .int _
def small62 (i : Int) : Bool := decide (-(2 ^ 62) ≤ i) && decide (i < 2 ^ 62)
theorem small62_ok {i : Int} (h : small62 i = true) : -(2 ^ 62) ≤ i ∧ i < 2 ^ 62 := by
  unfold small62 at h
  simp only [Bool.and_eq_true, decide_eq_true_eq] at h
  exact h
def dRng1 : List D → Option (List D)
  | [.int j] => if small62 j then some (rngD 0 j) else none
  | _ => none
def dRng2 : List D → Option (List D)
  | [.int i, .int j] => if small62 i && small62 j then some (rngD i j) else none
  | _ => none
def iRng1D (f : EXs) : IX := fun ρ => M.bind (f ρ) fun ds => M.opt (dRng1 ds)
def iRng2D (f : EXs) : IX := fun ρ => M.bind (f ρ) fun ds => M.opt (dRng2 ds)
theorem i_rng1 {tg a : Expr} {f : EXs} {p pos : Pos} (hg : Gl X "range") (hm : X.mg "range" = none) (ha : PDs X W [a] f) (hs : starEach [a] X.env = [(false, eval a X.env)] := by rfl) : PDI X W tg (.Call (.Name "range" p) [a] [] pos) (iRng1D f) := imp_I (pi_range1 hg hm ha hs) fun σ H R ⟨fr, F, ρ, n, r, n', R0, e, k⟩ => by
  rcases r with z | ds
  · exact R0.dsE1 e k
  obtain ⟨x, n1, e1, h⟩ := M.bind_ok e
  obtain ⟨h1, h2⟩ := M.opt_ok h
  subst h2
  refine ⟨fr, F, ρ, n, .ok x, _, R0, e1, fun F1 H1 vs R1 s1 d1 => ?_⟩
  unfold dRng1 at h1
  split at h1
  · split at h1
    · rename_i j q
      cases h1
      cases d1 with
      | cons q1 q2 =>
        cases q2; cases q1
        obtain ⟨a1, a2⟩ := small62_ok q
        refine ⟨_, rfl, a1, a2, k F1 H1 _ R1 s1 ?_⟩
        have := it_rng (K := X.K) (W := W) (dr := fr.dr) (F0 := F1) (lo := 0) (hi := j)
        rw [Int.sub_zero] at this
        exact this
    · cases h1
  · cases h1
theorem i_rng2 {tg a b : Expr} {f : EXs} {p pos : Pos} (hg : Gl X "range") (hm : X.mg "range" = none) (ha : PDs X W [a, b] f) (hs : starEach [a, b] X.env = [(false, eval a X.env), (false, eval b X.env)] := by rfl) (hs2 : starEach [b] X.env = [(false, eval b X.env)] := by rfl) : PDI X W tg (.Call (.Name "range" p) [a, b] [] pos) (iRng2D f) := imp_I (pi_range2 hg hm ha hs hs2) fun σ H R ⟨fr, F, ρ, n, r, n', R0, e, k⟩ => by
  rcases r with z | ds
  · exact R0.dsE1 e k
  obtain ⟨x, n1, e1, h⟩ := M.bind_ok e
  obtain ⟨h1, h2⟩ := M.opt_ok h
  subst h2
  refine ⟨fr, F, ρ, n, .ok x, _, R0, e1, fun F1 H1 vs R1 s1 d1 => ?_⟩
  unfold dRng2 at h1
  split at h1
  · split at h1
    · rename_i i j q
      cases h1
      rw [Bool.and_eq_true] at q
      cases d1 with
      | cons q1 q2 =>
        cases q2 with
        | cons q3 q4 =>
          cases q4; cases q1; cases q3
          obtain ⟨a1, a2⟩ := small62_ok q.1
          obtain ⟨a3, a4⟩ := small62_ok q.2
          exact ⟨_, _, rfl, ⟨a1, a2, a3, a4⟩, k F1 H1 _ R1 s1 it_rng⟩
    · cases h1
  · cases h1

/-! ### for -/
def forD (g : GX) (body : SX) : List D → SX
  | [] => fun ρ => M.pure (.nx ρ)
  | d :: ds => fun ρ => M.bind (M.opt (g d ρ)) fun ρ1 => M.bind (body ρ1) fun o => match o with
    | .nx ρ2 => forD g body ds ρ2
    | .ct ρ2 => forD g body ds ρ2
    | .bk ρ2 => M.pure (.nx ρ2)
    | .ret d => M.pure (.ret d)
    | .rn ρ2 => M.pure (.rn ρ2)
def sFor (g : GX) (it : IX) (body : SX) : SX := fun ρ => M.bind (it ρ) fun ds => forD g body ds ρ
theorem S_for {tg iter : Expr} {b : List Stmt} {t : TG} {g : GX} {it : IX} {body : SX} {pos : Pos} (hp : PassesOwn (model X.prog X.w) X.A X.env X.xe) (hc : X.calm = true) (hi : PDI X W tg iter it) (ht : PG X tg t) {is : List Nat} (hg : GOk X.K W t g is) (hb : PDSs X W b body)
    (hs : ∀ x, foldedSetIterable iter X.env x = pure x := by intro _; rfl) : PDS X W (.For tg iter b [] pos) (sFor g it body) := imp_S (ps_for hp hc hi ht hb hs) fun E σ H ⟨fr, F, ρ, n, r, n', R, e, k⟩ => by
  rcases M.bind_any e with ⟨z, e1, rfl⟩ | ⟨ds, n1, e1, h⟩
  · exact ⟨fr, F, ρ, n, .error z, n', R, e1, KS.x k⟩
  refine ⟨fr, F, ρ, n, .ok ds, n1, R, e1, fun F1 H1 J R1 s1 ok => ?_⟩
  refine ⟨fun i m σ' H' => m = ds.length - i ∧ i ≤ ds.length ∧ ∃ F' ρ' n'', Rel X.K W fr F' H' σ' ρ' n'' ∧ Sub F1 F' ∧ forD g body (ds.drop i) ρ' n'' = some (r, n'), ⟨ds.length, by simp, Nat.zero_le _, F1, ρ, n1, R1, Sub.refl _, h⟩, ?_⟩
  rintro i m σ2 H2 ⟨rfl, hi, F2, ρ2, n2, R2, s2, e2⟩
  by_cases hlt : i < ds.length
  · refine .inr ?_
    rw [List.drop_eq_getElem_cons hlt] at e2
    rcases M.bind_any e2 with ⟨z, e3, rfl⟩ | ⟨ρ3, n3, e3, h3⟩
    · exact (M.opt_err e3).elim
    obtain ⟨e4, e5⟩ := M.opt_ok e3
    subst e5
    obtain ⟨g1, g2⟩ := (ok fr F2 H2 σ2 ρ2 _ i rfl R2 s2).1 ds[i] (by simp [hlt])
    refine ⟨g1, fun σ' H' => ∃ F' ρ' n'', Rel X.K W fr F' H' σ' ρ' n'' ∧ Sub F1 F' ∧ forD g body (ds.drop (i + 1)) ρ' n'' = some (r, n'), fun σ' H' ⟨F', ρ', n'', a1, a2, a3⟩ => ⟨_, by omega, rfl, hlt, F', ρ', n'', a1, a2, a3⟩, fun x H' y => ?_⟩
    obtain ⟨F3, R3, s3, d3⟩ := g2 x H' y
    refine hg fr F3 H' σ2 ρ2 ρ3 _ x _ _ R3 d3 e4 fun σ3 R4 _ => ?_
    rcases M.bind_any h3 with ⟨z, e6, rfl⟩ | ⟨o1, n4, e6, h4⟩
    · exact ⟨fr, F3, ρ3, _, .error z, n', R4, e6, KS.mono k ((s1.trans s2).trans s3)⟩
    refine ⟨fr, F3, ρ3, _, .ok o1, n4, R4, e6, ?_⟩
    cases o1 with
    | nx ρ5 => exact fun F5 H5 σ5 R5 s5 => ⟨F5, ρ5, n4, R5, (s2.trans s3).trans s5, h4⟩
    | ct ρ5 => exact fun F5 H5 σ5 R5 s5 => ⟨F5, ρ5, n4, R5, (s2.trans s3).trans s5, h4⟩
    | bk ρ5 =>
      obtain ⟨a1, a2⟩ := M.pure_any h4
      subst a1 a2
      exact fun F5 H5 σ5 R5 s5 => k F5 H5 σ5 R5 ((((s1.trans s2).trans s3)).trans s5)
    | ret d =>
      obtain ⟨a1, a2⟩ := M.pure_any h4
      subst a1 a2
      exact fun F5 H5 v c5 s5 d5 => k F5 H5 v c5 ((((s1.trans s2).trans s3)).trans s5) d5
    | rn ρ5 =>
      obtain ⟨a1, a2⟩ := M.pure_any h4
      subst a1 a2
      exact fun F5 H5 σ5 R5 s5 => k F5 H5 σ5 R5 ((((s1.trans s2).trans s3)).trans s5)
  · have ei : i = ds.length := by omega
    refine .inl ⟨(ok fr F2 H2 σ2 ρ2 _ i rfl R2 s2).2 ei, ?_⟩
    rw [ei, List.drop_length] at e2
    obtain ⟨a1, a2⟩ := M.pure_any e2
    subst a1 a2
    exact k F2 H2 σ2 R2 (s1.trans s2)

/-! ### while, with so many turns at most -/
def whileD (t : TX) (body : SX) : Nat → SX
  | 0 => fun _ => M.opt none
  | m + 1 => fun ρ => M.bind (t ρ) fun b => match b with
    | false => M.pure (.nx ρ)
    | true => M.bind (body ρ) fun o => match o with
      | .nx ρ2 => whileD t body m ρ2
      | .ct ρ2 => whileD t body m ρ2
      | .bk ρ2 => M.pure (.nx ρ2)
      | .ret d => M.pure (.ret d)
      | .rn ρ2 => M.pure (.rn ρ2)
def sWhile (m : Env → Nat) (t : TX) (body : SX) : SX := fun ρ => whileD t body (m ρ) ρ
theorem S_while {c : Expr} {b : List Stmt} {t : TX} {body : SX} {pos : Pos} (m : Env → Nat) (hp : PassesOwn (model X.prog X.w) X.A X.env X.xe) (hc : PDT X W c t) (hb : PDSs X W b body) : PDS X W (.While c b [] pos) (sWhile m t body) := imp_S (ps_while hp hc hb) fun E σ H ⟨fr, F, ρ, n, r, n', R, e, k⟩ => by
  refine ⟨fun j σ' H' => ∃ F' ρ' n'', Rel X.K W fr F' H' σ' ρ' n'' ∧ Sub F F' ∧ whileD t body j ρ' n'' = some (r, n'), ⟨m ρ, F, ρ, n, R, Sub.refl _, e⟩, ?_⟩
  rintro j σ1 H1 ⟨F1, ρ1, n1, R1, s1, e1⟩
  cases j with
  | zero =>
    rw [whileD] at e1
    obtain ⟨_, q⟩ := M.opt_any e1
    cases q
  | succ j =>
    rcases M.bind_any e1 with ⟨z, e2, rfl⟩ | ⟨bb, n2, e2, h2⟩
    · exact ⟨fr, F1, ρ1, n1, .error z, n', R1, e2, KX.mono (KS.x k) s1⟩
    refine ⟨fr, F1, ρ1, n1, .ok bb, n2, R1, e2, fun F2 H2 R2 s2 => ?_⟩
    cases bb with
    | false =>
      obtain ⟨a1, a2⟩ := M.pure_any h2
      subst a1 a2
      rw [if_neg Bool.false_ne_true]
      exact k F2 H2 σ1 R2 (s1.trans s2)
    | true =>
      rw [if_pos rfl]
      refine ⟨fun σ' H' => ∃ F' ρ' n'', Rel X.K W fr F' H' σ' ρ' n'' ∧ Sub F F' ∧ whileD t body j ρ' n'' = some (r, n'), fun σ' H' q => ⟨j, Nat.lt_succ_self _, q⟩, ?_⟩
      rcases M.bind_any h2 with ⟨z, e6, rfl⟩ | ⟨o1, n4, e6, h4⟩
      · exact ⟨fr, F2, ρ1, n2, .error z, n', R2, e6, KS.mono k (s1.trans s2)⟩
      refine ⟨fr, F2, ρ1, n2, .ok o1, n4, R2, e6, ?_⟩
      cases o1 with
      | nx ρ5 => exact fun F5 H5 σ5 R5 s5 => ⟨F5, ρ5, n4, R5, (s1.trans s2).trans s5, h4⟩
      | ct ρ5 => exact fun F5 H5 σ5 R5 s5 => ⟨F5, ρ5, n4, R5, (s1.trans s2).trans s5, h4⟩
      | bk ρ5 =>
        obtain ⟨a1, a2⟩ := M.pure_any h4
        subst a1 a2
        exact fun F5 H5 σ5 R5 s5 => k F5 H5 σ5 R5 ((s1.trans s2).trans s5)
      | ret d =>
        obtain ⟨a1, a2⟩ := M.pure_any h4
        subst a1 a2
        exact fun F5 H5 v c5 s5 d5 => k F5 H5 v c5 ((s1.trans s2).trans s5) d5
      | rn ρ5 =>
        obtain ⟨a1, a2⟩ := M.pure_any h4
        subst a1 a2
        exact fun F5 H5 σ5 R5 s5 => k F5 H5 σ5 R5 ((s1.trans s2).trans s5)

/-! ### comprehensions -/
def wipeD (ρ : Env) : List Nat → Env
  | [] => ρ
  | v :: vs => (wipeD ρ vs).set v .no
theorem Rel.wipe1 {K : PySem.W.Frag} {fr : Fr} {F H : Hp} {σ : St} {ρ : Env} {n : Int} (r : Rel K W fr F H σ ρ n) (i : Nat) : Rel K W fr F H (σ.set i none) (ρ.set i .no) n := by
  obtain ⟨ad, s⟩ := r.slots
  have nd : ∀ {j : Nat} {e : Sl}, e ≠ .no → (ρ.set i Sl.no)[j]? = some e → i ≠ j ∧ ρ[j]? = some e := fun {j e} ne q => by
    by_cases hj : i = j
    · subst hj
      by_cases hi : i < ρ.length
      · rw [get_set_self hi] at q; cases q; exact absurd rfl ne
      · rw [List.getElem?_eq_none (by simpa using hi)] at q; cases q
    · rw [List.getElem?_set_ne hj] at q; exact ⟨hj, q⟩
  refine ⟨r.core, ad, by simp [s.len], fun j e q => ?_, fun j e q => ?_, fun j k e e' q q' => ?_, fun j o f q => ?_⟩
  rotate_left 3
  · obtain ⟨hj, q⟩ := nd (by simp) q
    obtain ⟨h1, a, b, h2, h3, h4, h5, h6⟩ := s.mob j o f q
    exact ⟨h1, a, b, by rw [List.getElem?_set_ne (by rw [← h1]; exact hj)]; exact h2, h3, h4, h5, fun k e z => h6 k e (nd (by simp) z).2⟩
  · obtain ⟨hj, q⟩ := nd (by simp) q
    obtain ⟨v, h1, h2⟩ := s.val j e q
    exact ⟨v, by rw [List.getElem?_set_ne hj]; exact h1, h2⟩
  · obtain ⟨hj, q⟩ := nd (by simp) q
    obtain ⟨h1, h2⟩ := s.own j e q
    exact ⟨by rw [List.getElem?_set_ne hj]; exact h1, h2⟩
  · exact s.inj j k e e' (nd (by simp) q).2 (nd (by simp) q').2
theorem Rel.wipe {K : PySem.W.Frag} {fr : Fr} {F H : Hp} {σ : St} {ρ : Env} {n : Int} (r : Rel K W fr F H σ ρ n) : ∀ vs, Rel K W fr F H (wipe σ vs) (wipeD ρ vs) n
  | [] => r
  | v :: vs => by unfold L2.wipe wipeD; exact (Rel.wipe r vs).wipe1 v
/-- one's own, out of sight -/
def hide : Env → Env
  | [] => []
  | .own _ :: r => .no :: hide r
  | .mob _ _ :: r => .no :: hide r
  | .no :: r => .no :: hide r
  | .val d :: r => .val d :: hide r
theorem hide_length : ∀ ρ : Env, (hide ρ).length = ρ.length
  | [] => rfl
  | .own _ :: r => by simp [hide, hide_length r]
  | .mob _ _ :: r => by simp [hide, hide_length r]
  | .no :: r => by simp [hide, hide_length r]
  | .val _ :: r => by simp [hide, hide_length r]
theorem hide_get : ∀ (ρ : Env) (i : Nat) (e : Sl), (hide ρ)[i]? = some e → e ≠ .no → ρ[i]? = some e ∧ ∃ d, e = .val d
  | [], _, _, h, _ => by simp [hide] at h
  | .own d :: r, 0, e, h, ne => by simp [hide] at h; exact absurd h.symm ne
  | .mob _ _ :: r, 0, e, h, ne => by simp [hide] at h; exact absurd h.symm ne
  | .no :: r, 0, e, h, ne => by simp [hide] at h; exact absurd h.symm ne
  | .val d :: r, 0, e, h, ne => by simp [hide] at h; exact ⟨by simp [h], d, h.symm⟩
  | .own d :: r, i + 1, e, h, ne => by simp [hide] at h; simpa using hide_get r i e h ne
  | .mob _ _ :: r, i + 1, e, h, ne => by simp [hide] at h; simpa using hide_get r i e h ne
  | .no :: r, i + 1, e, h, ne => by simp [hide] at h; simpa using hide_get r i e h ne
  | .val d :: r, i + 1, e, h, ne => by simp [hide] at h; simpa using hide_get r i e h ne
/-- a new run from here, with what is one's own out of sight -/
theorem Rel.inner {K : PySem.W.Frag} {fr : Fr} {F H : Hp} {σ : St} {ρ : Env} {n : Int} (r : Rel K W fr F H σ ρ n) : Rel K W (fr.at F H) F H σ (hide ρ) n := by
  obtain ⟨ad, s⟩ := r.slots
  refine ⟨r.core.at, ad, by rw [hide_length]; exact s.len, fun j e q => ?_, fun j e q => ?_, fun j k e e' q q' => ?_, fun j o f q => ?_⟩
  rotate_left 3
  · obtain ⟨d, hd⟩ := (hide_get ρ j _ q (by simp)).2
    cases hd
  · exact s.val j e (hide_get ρ j _ q (by simp)).1
  · obtain ⟨d, hd⟩ := (hide_get ρ j _ q (by simp)).2
    cases hd
  · obtain ⟨d, hd⟩ := (hide_get ρ j _ q (by simp)).2
    cases hd
/-- D is no one's own -/
def NoOwn (p : Addr) (σ : St) (ρ : Env) : Prop := ∀ (i : Nat) (d : D), ρ[i]? = some (Sl.own d) → σ[i]? ≠ some (some (.ref p))
theorem Rel.noOwn {K : PySem.W.Frag} {fr : Fr} {F H : Hp} {σ : St} {ρ : Env} {n : Int} (r : Rel K W fr F H σ ρ n) {p : Addr} (hp : H p = none) : NoOwn p σ ρ := fun i d e q => by
  obtain ⟨ad, s⟩ := r.slots
  obtain ⟨h1, _, _, _, h5, _⟩ := s.own i d e
  obtain ⟨o, ho⟩ := h5.there
  rw [h1] at q
  cases q
  rw [hp] at ho; cases ho
theorem Rel.other {K : PySem.W.Frag} {fr : Fr} {F H : Hp} {σ : St} {ρ : Env} {n : Int} (r : Rel K W fr F H σ ρ n) {p : Addr} {o : HO} (h1 : F p = none) (h2 : fr.H0 p = none) (h3 : fr.dr ≠ some p) (h4 : NoOwn p σ ρ) (h5 : ∀ u, H p = some u → ¬ Sd u) : Rel K W fr F (upd H p o) σ ρ n := by
  obtain ⟨ad, s⟩ := r.slots
  have c := r.core
  refine ⟨?_, ad, s.len, s.val, fun j e q => ?_, s.inj, fun j o' f q => ?_⟩
  rotate_left 2
  · obtain ⟨k1, a, b, k2, k3, k4, k5, k6⟩ := s.mob j o' f q
    have m := k3
    obtain ⟨m1, m2, m3, m4, m5, _⟩ := m
    have k5' := k5
    obtain ⟨⟨_, _, _, z1⟩, _, z2⟩ := k5'
    exact ⟨k1, a, b, k2, k3.keep (Sub.refl _) (fun u z _ => by rw [upd_ne (ne_of_none z1 h2)]; exact z) (fun u z _ => by rw [upd_ne (ne_of_none z2 h2)]; exact z) m1 m2, k4, k5, k6⟩
  · exact {
      sub := fun a u q => by rw [upd_ne (ne_of_none q h1)]; exact c.sub _ _ q
      base := fun a u q q2 q3 => by rw [upd_ne (ne_of_none q h2)]; exact c.base a u q q2 q3
      f0 := c.f0
      new := c.new
      there := fun a u q => by rw [upd_ne (ne_of_none q h2)]; exact c.there a u q
      draw := fun a e => by
        obtain ⟨q1, q2, q3⟩ := c.draw a e
        have ne : a ≠ p := fun z => h3 (by rw [← z]; exact e)
        exact ⟨q1, by rw [upd_ne ne]; exact q2, q3⟩
      ntF := c.ntF
      tabs := tabs_keep c.tabs fun a u q sd => by
        have ne : a ≠ p := fun z => by subst z; exact h5 u q sd
        rw [upd_ne ne]; exact q }
  · obtain ⟨q1, q2, q3, q4, q5, q6⟩ := s.own j e q
    have ne : ad j ≠ p := fun z => h4 j e q (by rw [q1, z])
    exact ⟨q1, q2, q3, q4, q5.mono (Sub.refl _) (fun u z => by rw [upd_ne ne]; exact z), q6⟩
theorem Rel.addF {K : PySem.W.Frag} {fr : Fr} {F H : Hp} {σ : St} {ρ : Env} {n : Int} (r : Rel K W fr F H σ ρ n) {p : Addr} {o : HO} (h0 : H p = some o) (h1 : F p = none) (h2 : fr.H0 p = none) (h3 : fr.dr ≠ some p) (h4 : NoOwn p σ ρ) (ho : NT o := by (intro _ h; cases h)) : Sub F (upd F p o) ∧ Rel K W fr (upd F p o) H σ ρ n := by
  obtain ⟨ad, s⟩ := r.slots
  have c := r.core
  have up : Sub F (upd F p o) := fun a u q => by rw [upd_ne (ne_of_none q h1)]; exact q
  refine ⟨up, ?_, ad, s.len, fun j e q => ?_, fun j e q => ?_, s.inj, fun j o' f q => ?_⟩
  rotate_left 3
  · obtain ⟨k1, a, b, k2, k3, k4, k5, k6⟩ := s.mob j o' f q
    have m := k3
    obtain ⟨m1, m2, m3, m4, m5, _⟩ := m
    have k5' := k5
    obtain ⟨⟨_, _, _, z1⟩, _, z2⟩ := k5'
    exact ⟨k1, a, b, k2, k3.keep up (fun u z _ => z) (fun u z _ => z) (by rw [upd_ne (ne_of_none z1 h2)]; exact m1) (by rw [upd_ne (ne_of_none z2 h2)]; exact m2), k4, k5, k6⟩
  · exact {
      sub := fun a u q => by
        by_cases e : a = p
        · rw [e, upd_same] at q; rw [e, h0]; exact q
        · rw [upd_ne e] at q; exact c.sub _ _ q
      base := c.base
      f0 := c.f0.trans up
      new := fun a u q q2 => by rw [upd_ne (ne_of_none q h2)]; exact c.new a u q q2
      there := c.there
      draw := fun a e => by
        obtain ⟨q1, q2, q3⟩ := c.draw a e
        have ne : a ≠ p := fun z => h3 (by rw [← z]; exact e)
        exact ⟨by rw [upd_ne ne]; exact q1, q2, up.sqL q3⟩
      ntF := fun a u q => by
        by_cases e : a = p
        · rw [e, upd_same] at q; cases q; exact ho
        · rw [upd_ne e] at q; exact c.ntF a u q
      tabs := c.tabs }
  · obtain ⟨v, q1, q2⟩ := s.val j e q
    exact ⟨v, q1, q2.mono up fun _ z => z⟩
  · obtain ⟨q1, q2, q3, q4, q5, q6⟩ := s.own j e q
    have ne : ad j ≠ p := fun z => h4 j e q (by rw [q1, z])
    exact ⟨q1, by rw [upd_ne ne]; exact q2, q3, q4, q5.mono up fun _ z => z, q6⟩

def compD (body : D → M (Option D)) : List D → M (List D)
  | [] => M.pure []
  | d :: ds => M.bind (body d) fun y => M.bind (compD body ds) fun ys => M.pure (match y with | some z => z :: ys | none => ys)
def compB (vs : List Nat) (g : GX) (t : TX) (f : EX) (ρ : Env) (d : D) : M (Option D) := M.bind (M.opt (g d (hide (wipeD ρ vs)))) fun ρ1 => M.bind (t ρ1) fun b => match b with
  | true => M.bind (f ρ1) fun y => M.pure (some y)
  | false => M.pure none
def eComp (vs : List Nat) (g : GX) (it : IX) (t : TX) (f : EX) : EX := fun ρ => M.bind (it ρ) fun ds => M.bind (M.calm (compD (compB vs g t f ρ) ds)) fun ys => M.opt (mkLst ys)
def tYesD : TX := fun _ => M.pure true
/-- what is not to raise -/
def tDk (K : PySem.W.Frag) (W : Wd) (f : EX) : TE := fun σ H Q => ∃ fr F ρ n d n', Rel K W fr F H σ ρ n ∧ f ρ n = some (.ok d, n') ∧
  ∀ F' H' v, Rel K W fr F' H' σ ρ n' → Sub F F' → Den K W fr.dr F' v d → Q v H'
def tTk (K : PySem.W.Frag) (W : Wd) (f : TX) : TT := fun σ H Q => ∃ fr F ρ n b n', Rel K W fr F H σ ρ n ∧ f ρ n = some (.ok b, n') ∧
  ∀ F' H', Rel K W fr F' H' σ ρ n' → Sub F F' → Q b H'
theorem dk {e : Expr} {f : EX} (h : PD X W e f) : PE X e (tDk X.K W f) := imp_E h fun σ H Q ⟨fr, F, ρ, n, d, n', R, e, k⟩ => ⟨fr, F, ρ, n, .ok d, n', R, e, k⟩
theorem tsk {es : List Expr} {f : TX} (h : PTs X es (tT X W f)) : PTs X es (tTk X.K W f) := ⟨fun pins s σ H Q I ⟨fr, F, ρ, n, d, n', R, e, k⟩ => h.run pins s σ H Q I ⟨fr, F, ρ, n, .ok d, n', R, e, k⟩⟩
theorem ts_nil : PTs X [] (tT X W tYesD) := by
  refine ⟨fun pins s σ H Q I ⟨fr, F, ρ, n, r, n', R, e, k⟩ => ?_⟩
  rcases r with z | b
  · exact (M.pure_err e).elim
  obtain ⟨h1, h2⟩ := M.pure_ok e
  subst h1 h2
  exact pts_nil.run pins s σ H Q I (k F H R (Sub.refl _))
theorem ts_one {c : Expr} {t : TX} (h : PDT X W c t) : PTs X [c] (tT X W t) := pts_one h
theorem d_tLc {vs : List Nat} {tg : TG} {g : GX} {is : List Nat} {it : IX} {t : TX} {f : EX} (hg : GOk X.K W tg g is) (hv : ∀ i ∈ is, i ∈ vs) {σ : St} {H : Hp} {Q : VK} (h : tD X W (eComp vs g it t f) σ H Q) : tLc (tI X W it) tg (tTk X.K W t) (tDk X.K W f) vs σ H Q := by
  obtain ⟨fr, F, ρ, n, r, n', R, e, k⟩ := h
  rcases r with z | d
  · rcases M.bind_err e with e1 | ⟨ds, n1, e1, h⟩
    · exact ⟨fr, F, ρ, n, .error z, n', R, e1, k⟩
    · rcases M.bind_err h with h | ⟨_, _, _, h⟩
      · exact (M.calm_err h).elim
      · exact (M.opt_err h).elim
  obtain ⟨ds, n1, e1, ha⟩ := M.bind_ok e
  obtain ⟨zs, n2, e2, hb⟩ := M.bind_ok ha
  obtain ⟨e3, e4⟩ := M.opt_ok hb
  replace e2 := M.calm_ok e2
  obtain ⟨e5, hz⟩ := mkLst_ok e3
  clear ha hb e3
  subst e4 e5
  refine ⟨fr, F, ρ, n, .ok ds, n1, R, e1, fun F1 H1 J R1 s1 ok => fun p hp => ?_⟩
  refine ⟨fun i m H' => m = ds.length - i ∧ i ≤ ds.length ∧ ∃ F' n'' acc dacc ys, Rel X.K W fr F' H' σ ρ n'' ∧ Sub F1 F' ∧ F' p = none ∧ H' p = some (.lst acc) ∧ Dens X.K W fr.dr F' acc dacc ∧ compD (compB vs g t f ρ) (ds.drop i) n'' = some (.ok ys, n') ∧ zs = dacc ++ ys,
    ⟨ds.length, by simp, Nat.zero_le _, F1, n1, [], [], zs, ?_, Sub.refl _, R1.core.noF hp, upd_same, .nil, e2, rfl⟩, ?_⟩
  · exact R1.other (R1.core.noF hp) (R1.core.noH0 hp) (R1.core.ndr hp) (R1.noOwn hp) (sd_no hp)
  have hH0 := R1.core.noH0 hp
  have hdr := R1.core.ndr hp
  have hno := R1.noOwn hp
  rintro i m H2 ⟨rfl, hi, F2, m2, acc, dacc, ys, R2, s2, f2, a2, d2, c2, q2⟩
  have RI : Rel X.K W (fr.at F2 H2) F2 H2 (wipe σ vs) (hide (wipeD ρ vs)) m2 := (R2.wipe vs).inner
  by_cases hlt : i < ds.length
  · refine .inr ?_
    rw [List.drop_eq_getElem_cons hlt] at c2
    obtain ⟨y, n3, c3, hc⟩ := M.bind_ok c2
    obtain ⟨yr, n4, c4, hd⟩ := M.bind_ok hc
    obtain ⟨c5, c6⟩ := M.pure_ok hd
    clear hc hd
    subst c6
    obtain ⟨ρ1, n5, b1, hb1⟩ := M.bind_ok c3
    obtain ⟨b2, b3⟩ := M.opt_ok b1
    obtain ⟨b, n6, b4, hb2⟩ := M.bind_ok hb1
    clear hb1 b1 c3
    subst b3
    obtain ⟨g1, g2⟩ := (ok (fr.at F2 H2) F2 H2 _ _ _ i rfl RI s2).1 ds[i] (by simp [hlt])
    refine ⟨g1, fun H' => ∃ F' n'' acc dacc ys, Rel X.K W fr F' H' σ ρ n'' ∧ Sub F1 F' ∧ F' p = none ∧ H' p = some (.lst acc) ∧ Dens X.K W fr.dr F' acc dacc ∧ compD (compB vs g t f ρ) (ds.drop (i + 1)) n'' = some (.ok ys, _) ∧ zs = dacc ++ ys, fun H' q => ⟨_, by omega, rfl, hlt, q⟩, fun x H' yl => ?_⟩
    obtain ⟨F3, R3, s3, d3⟩ := g2 x H' yl
    refine hg (fr.at F2 H2) F3 H' _ _ ρ1 _ x _ _ R3 d3 b2 fun σ3 R4 w4 => ⟨(w4 vs hv).trans (wipe_wipe σ vs), ?_⟩
    refine ⟨fr.at F2 H2, F3, ρ1, _, b, n6, R4, b4, fun F5 H5 R5 s5 => ?_⟩
    cases b with
    | true =>
      rw [if_pos rfl]
      obtain ⟨z, n7, b5, hb3⟩ := M.bind_ok hb2
      obtain ⟨b6, b7⟩ := M.pure_ok hb3
      clear hb2 hb3
      subst b6 b7
      refine ⟨fr.at F2 H2, F5, ρ1, n6, z, _, R5, b5, fun F6 H6 v R6 s6 d6 => ?_⟩
      have a6 : H6 p = some (.lst acc) := R6.core.base p _ (mask_of a2) hdr fun z => z
      have f6 : F6 p = none := R6.core.new p _ (mask_of a2) f2
      have s26 : Sub F2 F6 := R6.core.f0
      refine ⟨acc, a6, ?_, F6, _, acc ++ [v], dacc ++ [z], yr, (R2.back R6.core).other f6 hH0 hdr hno (sd_of a6), s2.trans s26, f6, upd_same, (d2.mono s26 fun _ z => z).append (.cons d6 .nil), c4, ?_⟩
      · have l1 := d2.length
        have l2 : zs.length = dacc.length + ys.length := by rw [q2, List.length_append]
        have l3 : ys.length = yr.length + 1 := by rw [← c5]; simp
        omega
      · rw [q2, ← c5]; simp
    | false =>
      rw [if_neg Bool.false_ne_true]
      obtain ⟨b6, b7⟩ := M.pure_ok hb2
      clear hb2
      subst b6 b7
      have a6 : H5 p = some (.lst acc) := R5.core.base p _ (mask_of a2) hdr fun z => z
      have f6 : F5 p = none := R5.core.new p _ (mask_of a2) f2
      have s26 : Sub F2 F5 := R5.core.f0
      exact ⟨F5, _, acc, dacc, yr, R2.back R5.core, s2.trans s26, f6, a6, d2.mono s26 fun _ z => z, c4, by rw [q2, ← c5]⟩
  · have ei : i = ds.length := by omega
    refine .inl ⟨(ok (fr.at F2 H2) F2 H2 _ _ _ i rfl RI s2).2 ei, ?_⟩
    rw [ei, List.drop_length] at c2
    obtain ⟨a1, a3⟩ := M.pure_ok c2
    subst a1 a3
    obtain ⟨u1, R7⟩ := R2.addF a2 f2 hH0 hdr hno
    exact k _ H2 _ R7 ((s1.trans s2).trans u1) (.lst upd_same (by rw [q2, List.append_nil]; exact d2.mono u1 fun _ z => z))
/-- [elt for tg in iter if ..] -/
theorem d_comp {vs : List Nat} {elt tg iter : Expr} {ifs : List Expr} {scope : Scope} {own : List (Str × Nat)} {pos : Pos} {t : TG} {g : GX} {is : List Nat} {it : IX} {tt : TX} {f : EX} (hc : X.calm = true) (hN : X.N.Nodup) (hi : PDI X W tg iter it) (ok : BlkOk X.N X.env.scope scope own)
    (hg : ∀ (s : Shared) (H : Hp) (C : Addr) (cl : List (Str × Addr)) (fp : List Addr), PG (X.blk s H scope (compEnvC scope cl C X.env) fp) tg t) (hq : GOk X.K W t g is) (hv : ∀ i ∈ is, i ∈ vs)
    (ht : ∀ (s : Shared) (H : Hp) (C : Addr) (cl : List (Str × Addr)) (fp : List Addr), PTs (X.blk s H scope (compEnvC scope cl C X.env) fp) ifs (tT (X.blk s H scope (compEnvC scope cl C X.env) fp) W tt))
    (he : ∀ (s : Shared) (H : Hp) (C : Addr) (cl : List (Str × Addr)) (fp : List Addr), PD (X.blk s H scope (compEnvC scope cl C X.env) fp) W elt f) (hs : ∀ x, foldedSetIterable iter X.env x = pure x := by intro _; rfl) (hvs : own.map (·.2) = vs := by rfl) :
    PD X W (.ListComp elt [⟨tg, iter, ifs, 0⟩] scope pos) (eComp vs g it tt f) := by
  subst hvs
  exact imp_E (pe_lc (tt := tTk X.K W tt) (te := tDk X.K W f) hc hN hi ok hg (fun s H C cl fp => tsk (ht s H C cl fp)) (fun s H C cl fp => dk (he s H C cl fp)) hs) fun _ _ _ h => d_tLc hq hv h
/-- y = [elt for ..], one line -/
theorem S_setComp {vs : List Nat} {i : Nat} {y : Str} {py : Pos} {elt tg iter : Expr} {ifs : List Expr} {scope : Scope} {own : List (Str × Nat)} {pos spos : Pos} {t : TG} {g : GX} {is : List Nat} {it : IX} {tt : TX} {f : EX} (hc : X.calm = true) (hN : X.N.Nodup) (hy : X.N[i]? = some y) (hyl : X.env.scope.names.lookup y = some .local)
    (hsw : swapsWith (.ListComp elt [⟨tg, iter, ifs, 0⟩] scope pos) (some (.Name y py)) spos.line X.env = pure true) (hi : PDI X W tg iter it) (ok : BlkOk X.N X.env.scope scope own)
    (hg : ∀ (s : Shared) (H : Hp) (C : Addr) (cl : List (Str × Addr)) (fp : List Addr), PG (X.blk s H scope (compEnvC scope cl C X.env) fp) tg t) (hq : GOk X.K W t g is) (hv : ∀ i ∈ is, i ∈ vs)
    (ht : ∀ (s : Shared) (H : Hp) (C : Addr) (cl : List (Str × Addr)) (fp : List Addr), PTs (X.blk s H scope (compEnvC scope cl C X.env) fp) ifs (tT (X.blk s H scope (compEnvC scope cl C X.env) fp) W tt))
    (he : ∀ (s : Shared) (H : Hp) (C : Addr) (cl : List (Str × Addr)) (fp : List Addr), PD (X.blk s H scope (compEnvC scope cl C X.env) fp) W elt f) (hs : ∀ x, foldedSetIterable iter X.env x = pure x := by intro _; rfl) (hvs : own.map (·.2) = vs := by rfl) :
    PDS X W (.Assign [.Name y py] (.ListComp elt [⟨tg, iter, ifs, 0⟩] scope pos) spos) (sAsg (gV i) (eComp vs g it tt f)) := by
  subst hvs
  refine imp_S (ps_setLc (tt := tTk X.K W tt) (te := tDk X.K W f) hc hN hy hyl hsw hi ok hg (fun s H C cl fp => tsk (ht s H C cl fp)) (fun s H C cl fp => dk (he s H C cl fp)) hs) fun E σ H ⟨fr, F, ρ, n, r, n', R, e, k⟩ => ?_
  rcases r with z | o
  · refine d_tLc hq hv (R.dE e (KS.x k) fun _ _ _ _ _ _ h _ _ _ => ?_)
    rcases M.bind_err h with h | ⟨_, _, _, h⟩
    · exact (M.opt_err h).elim
    · exact (M.pure_err h).elim
  obtain ⟨x, n1, e1, ha⟩ := M.bind_ok e
  obtain ⟨ρ', n2, e2, h⟩ := M.bind_ok ha
  obtain ⟨h1, h2⟩ := M.pure_ok h
  obtain ⟨h3, h4⟩ := M.opt_ok e2
  clear ha h
  subst h4
  subst h1 h2
  refine d_tLc hq hv ⟨fr, F, ρ, n, .ok x, _, R, e1, fun F1 H1 v R1 s1 d1 => ?_⟩
  cases h3
  exact k F1 H1 _ (R1.set d1) s1
end
end DL
end

section
set_option Elab.async false
set_option linter.all false
set_option autoImplicit false
set_option maxRecDepth 100000
namespace DL
open PySem PySem.Spec L2
open PyProof.Rows (envOfC)

/-! ### what a def promises -/
theorem fn_okX {b : Bool} {P : Program} {w : World} {K : PySem.W.Frag} {mg : Str → Option Value} {base : Heap} {x qual : Str} {st : Stmt} {f : Addr} {fd : FuncData} {N ps : List Str} {k : Nat} {sp : Sp} (F : Fun K x qual st f fd) (S : FnScope N ps (defScope st)) (len : ∀ vs H Q E, sp vs H Q E → vs.length = ps.length)
    (body : ∀ (cdv : Value) (A : Around) (outer : List PySem.Env) (s : Shared) (H : Hp) (vs : List V) (Q : VK) (E : XK), Room k (A.deeper (envOfC qual (defScope st) s.heap.objs.size f cdv)) → sp vs H Q E →
      ∃ t, PSs (cxOf (CXm b P w) P w K mg base N qual (defScope st) f cdv A outer s H E) (defBody st) t ∧ t { nx := fun _ H' => Q .non H', rt := Q } (L2.start N vs) H) : FnOk P w K mg base (CXm b P w) (k + 1) f fd ps sp := by
  obtain ⟨oc, od, kV, doc, pm, an, cdv, ct, osl, rfl, lk, hcd⟩ := F.ex
  exact fn_of lk hcd S len fun A outer s H vs Q E hr => body cdv A outer s H vs Q E hr
/-- the code object that a def bears -/
def Cdv (fd : FuncData) (cdv : Value) : Prop := ∃ (x q : Str) (a : Arguments) (b : List Stmt) (sc : Scope) (dd kV doc pm : Value) (an : Option Addr) (ct : Value), fd = PySem.W.fnOf x q a b sc dd kV doc pm an cdv ct
theorem fn_okXc {b : Bool} {P : Program} {w : World} {K : PySem.W.Frag} {mg : Str → Option Value} {base : Heap} {x qual : Str} {st : Stmt} {f : Addr} {fd : FuncData} {N ps : List Str} {k : Nat} {sp : Sp} (F : Fun K x qual st f fd) (S : FnScope N ps (defScope st)) (len : ∀ vs H Q E, sp vs H Q E → vs.length = ps.length)
    (body : ∀ (cdv : Value), Cdv fd cdv → ∀ (A : Around) (outer : List PySem.Env) (s : Shared) (H : Hp) (vs : List V) (Q : VK) (E : XK), Room k (A.deeper (envOfC qual (defScope st) s.heap.objs.size f cdv)) → sp vs H Q E →
      ∃ t, PSs (cxOf (CXm b P w) P w K mg base N qual (defScope st) f cdv A outer s H E) (defBody st) t ∧ t { nx := fun _ H' => Q .non H', rt := Q } (L2.start N vs) H) : FnOk P w K mg base (CXm b P w) (k + 1) f fd ps sp := by
  obtain ⟨oc, od, kV, doc, pm, an, cdv, ct, osl, rfl, lk, hcd⟩ := F.ex
  exact fn_of lk hcd S len fun A outer s H vs Q E hr => body cdv ⟨_, _, _, _, _, _, _, _, _, _, _, rfl⟩ A outer s H vs Q E hr
abbrev FX := List D → M D
/-- what is answered, what is raised -/
def spD (K : PySem.W.Frag) (W : Wd) (f : FX) (m : Nat) : Sp := fun vs H Q E => vs.length = m ∧ ∃ fr F n ds r n', Core K W fr F H n ∧ Dens K W fr.dr F vs ds ∧ f ds n = some (r, n') ∧
  Res (fun d => ∀ F' H' v, Core K W (fr.at F H) F' H' n' → Den K W fr.dr F' v d → Q v H') (fun z => ∀ F' H' cls d, Core K W (fr.at F H) F' H' n' → XDen K W fr.dr F' H' z cls d → E cls d H') r
/-- a body as a function: N names, P parameters -/
def runD (N P : Nat) (g : SX) : FX := fun ds => M.bind (g (ds.map Sl.val ++ List.replicate (N - P) Sl.no)) fun o => match o with
  | .ret d => M.pure d
  | .nx _ => M.pure .non
  | _ => M.opt none
theorem start_rel {K : PySem.W.Frag} {W : Wd} {fr : Fr} {F H : Hp} {n : Int} {N : List Str} {P : Nat} {vs : List V} {ds : List D} (c : Core K W fr F H n) (d : Dens K W fr.dr F vs ds) (hl : vs.length = P) :
    Rel K W (fr.at F H) F H (L2.start N vs) (ds.map Sl.val ++ List.replicate (N.length - P) Sl.no) n := by
  have key : ∀ (i : Nat) (e : Sl), (ds.map Sl.val ++ List.replicate (N.length - P) Sl.no)[i]? = some e → e ≠ .no → ∃ d, ds[i]? = some d ∧ e = .val d := fun i e q ne => by
    by_cases hi : i < ds.length
    · rw [List.getElem?_append_left (by simpa using hi), List.getElem?_map] at q
      cases z : ds[i]? with
      | none => rw [z] at q; cases q
      | some d' => rw [z] at q; cases q; exact ⟨d', rfl, rfl⟩
    · rw [List.getElem?_append_right (by simpa using hi)] at q
      have := List.mem_of_getElem? q
      rw [List.mem_replicate] at this
      exact absurd this.2 ne
  refine ⟨c.at, fun _ => 0, ?_, fun i e q => ?_, fun i e q => ?_, fun i j e e' q q' => ?_, fun i o f q => ?_⟩
  rotate_left 4
  · obtain ⟨d', h1, h2⟩ := key i _ q (by simp)
    cases h2
  · unfold L2.start; simp [d.length, ← hl]
  · obtain ⟨d', h1, h2⟩ := key i _ q (by simp)
    cases h2
    obtain ⟨v, h3, h4⟩ := d.get h1
    refine ⟨v, ?_, h4⟩
    unfold L2.start
    have hi := (List.getElem?_eq_some_iff.mp h3).1
    rw [List.getElem?_append_left (by simpa using hi), List.getElem?_map, h3]; rfl
  · obtain ⟨d', h1, h2⟩ := key i _ q (by simp)
    cases h2
  · obtain ⟨d', h1, h2⟩ := key i _ q (by simp)
    cases h2
section
variable {P : Program} {w : World} {K : PySem.W.Frag} {mg : Str → Option Value} {base : Heap} {W : Wd}
/-- a def's body lets out what its callers take -/
theorem acc_of {b : Bool} {X : Cx} {E : XK} {E₁ : Value → Shared → Prop} (hs : X.stack = X.env :: X.outer) (hf : X.env.frame = some X.env.locals) (hex : X.ex = [])
    (hx : X.xe = fun e s' => wpAny (model X.prog X.w) X.A (leaving X.env e) (fun _ s'' => CXm b X.prog X.w X.outer X.H_0 X.s_0 E e s'') E₁ s') {cls : Value} {d : Option Addr} {σ : St} {H : Hp} (h : E cls d H) : Acc b X cls d σ H := by
  cases b
  · exact Acc.ofM (b := false) (L2.takes_of hs hf hex hx) h
  · exact Acc.ofM (b := true) (L2N.takes_of hs hf hex hx) h
theorem okD {x qual : Str} {st : Stmt} {f : Addr} {fd : FuncData} {N ps : List Str} {k : Nat} {g : SX} (F : Fun K x qual st f fd) (S : FnScope N ps (defScope st))
    (body : ∀ (cdv : Value) (A : Around) (outer : List PySem.Env) (s : Shared) (H : Hp) (E : XK), Room k (A.deeper (envOfC qual (defScope st) s.heap.objs.size f cdv)) → PDSs (cxOf (CXm W.md P w) P w K mg base N qual (defScope st) f cdv A outer s H E) W (defBody st) g) :
    FnOk P w K mg base (CXm W.md P w) (k + 1) f fd ps (spD K W (runD N.length ps.length g) ps.length) := by
  refine fn_okX F S (fun vs H Q E h => h.1) fun cdv A outer s H vs Q E hr h => ?_
  obtain ⟨hl, fr, F0, n, ds, r, n', c, dd, e, k⟩ := h
  refine ⟨_, body cdv A outer s H E hr, ?_⟩
  rcases M.bind_any e with ⟨z, e1, rfl⟩ | ⟨o, n1, e1, h1⟩
  · exact ⟨fr.at F0 H, F0, _, n, .error z, n', start_rel c dd hl, e1, fun F' H' σ' cls d c' s' x => acc_of rfl rfl rfl rfl (k F' H' cls d c' x)⟩
  refine ⟨fr.at F0 H, F0, _, n, .ok o, n1, start_rel c dd hl, e1, ?_⟩
  cases o with
  | ret d' =>
    obtain ⟨a1, a2⟩ := M.pure_any h1
    subst a1 a2
    exact fun F' H' v c' s' d' => k F' H' v c' d'
  | nx ρ =>
    obtain ⟨a1, a2⟩ := M.pure_any h1
    subst a1 a2
    exact fun F' H' σ' R' s' => k F' H' _ R'.core .non
  | bk ρ => obtain ⟨_, q⟩ := M.opt_any h1; cases q
  | ct ρ => obtain ⟨_, q⟩ := M.opt_any h1; cases q
  | rn ρ => obtain ⟨_, q⟩ := M.opt_any h1; cases q
end

/-! ### calls -/
section
variable {X : Cx} {W : Wd} {k : Nat} {f C : Addr} {fd : FuncData} {ps : List Str} {x m : Str} {p pos apos : Pos} {e o : Expr} {es : List Expr}
def eCall (fx : FX) (fs : EXs) : EX := fun ρ => M.bind (fs ρ) fx
/-- a callee's wish about what it raises, at the slots -/
def EA (b : Bool) (X : Cx) (σ : St) : XK := fun cls d H => Acc b X cls d σ H
theorem passEA {b : Bool} {σ : St} : PassesAt (CXm b X.prog X.w) X σ (EA b X σ) := by
  cases b
  · exact L2.passAt takesAccF σ
  · exact L2N.passAt takesAccT σ
/-- a callee's end, back at the caller -/
theorem callee_back {fx : FX} {mm : Nat} {fr : Fr} {F F1 H1 : Hp} {σ : St} {ρ : Env} {n1 n' : Int} {ds : List D} {vs : List V} {r : Except Xc D} {Q : VK} (hl : ds.length = mm) (R1 : Rel X.K W fr F1 H1 σ ρ n1) (s1 : Sub F F1) (d1 : Dens X.K W fr.dr F1 vs ds) (h1 : fx ds n1 = some (r, n'))
    (k : Res (fun d => ∀ F' H' v, Rel X.K W fr F' H' σ ρ n' → Sub F F' → Den X.K W fr.dr F' v d → Q v H') (KX X W fr F σ ρ n') r) : spD X.K W fx mm vs H1 Q (EA W.md X σ) := by
  refine ⟨by rw [d1.length]; exact hl, fr, F1, n1, ds, r, n', R1.core, d1, h1, ?_⟩
  cases r with
  | ok d => exact fun F2 H2 v c2 d2 => k F2 H2 v (R1.back c2) (s1.trans c2.f0) d2
  | error z => exact fun F2 H2 cls d c2 x => k F2 H2 cls d (R1.back c2) (s1.trans c2.f0) x
theorem tCall_of {fx : FX} {fs : EXs} {mm : Nat} (hm : ∀ ρ n ds n', fs ρ n = some (.ok ds, n') → ds.length = mm) {σ : St} {H : Hp} {Q : VK} (h : tD X W (eCall fx fs) σ H Q) : tCallS (spD X.K W fx mm) (EA W.md X) (tDs X W fs) σ H Q := by
  obtain ⟨fr, F, ρ, n, r, n', R, e, k⟩ := h
  rcases M.bind_any e with ⟨z, e1, rfl⟩ | ⟨ds, n1, e1, h1⟩
  · exact ⟨fr, F, ρ, n, .error z, n', R, e1, k⟩
  · exact ⟨fr, F, ρ, n, .ok ds, n1, R, e1, fun F1 H1 vs R1 s1 d1 => callee_back (hm _ _ _ _ e1) R1 s1 d1 h1 k⟩
theorem al_nil (ρ : Env) (n : Int) (ds : List D) (n' : Int) (h : eNil ρ n = some (.ok ds, n')) : ds.length = 0 := by
  obtain ⟨a, b⟩ := M.pure_ok h
  subst a; rfl
theorem al_cons {g : EX} {fs : EXs} {mm : Nat} (hm : ∀ ρ n ds n', fs ρ n = some (.ok ds, n') → ds.length = mm) (ρ : Env) (n : Int) (ds : List D) (n' : Int) (h : eCons g fs ρ n = some (.ok ds, n')) : ds.length = mm + 1 := by
  obtain ⟨d, n1, e1, h1⟩ := M.bind_ok h
  obtain ⟨r, n2, e2, h2⟩ := M.bind_ok h1
  obtain ⟨a, b⟩ := M.pure_ok h2
  subst a
  simp [hm _ _ _ _ e2]
theorem d_call {fx : FX} {fs : EXs} {mm : Nat} (F : FnOk X.prog X.w X.K X.mg X.base (CXm W.md X.prog X.w) k f fd ps (spD X.K W fx mm)) (hr : Room k X.A) (hg : Gl X x) (hm : X.mg x = some (.ref f)) (hk : PySem.W.keepIn X.K (.ref f) = true) (hb : Binds X.K fd ps [])
    (ha : PDs X W (e :: es) fs) (hl : ∀ ρ n ds n', fs ρ n = some (.ok ds, n') → ds.length = mm) (hdb : (x == ("__debug__" : Str)) = false := by decide) (he : starEach (e :: es) X.env = (false, eval e X.env) :: starEach es X.env := by rfl) (hpl : (backTo pos (starEach es X.env)).any (·.1) = false := by rfl) :
    PD X W (.Call (.Name x p) (e :: es) [] pos) (eCall fx fs) := imp_E (pe_callS (E := EA W.md X) F hr hg hm hk hb (fun _ => passEA) ha hdb he hpl) fun _ _ _ h => tCall_of hl h
/-! ### built-ins called by name -/
theorem d_B {r : List V → Hp → VK → Prop} {op : List D → Option D} {id : String} {fs : EXs} (hc : CallR X (.builtin id) r) (hd : CallD X.K W r op) (hg : Gl X x) (hm : X.mg x = none) (hv : bootBuiltins x = some (.builtin id)) (ha : PDs X W (e :: es) fs) (hn : x ≠ "__name__" := by decide) (hdb : (x == ("__debug__" : Str)) = false := by decide)
    (he : starEach (e :: es) X.env = (false, eval e X.env) :: starEach es X.env := by rfl) (hpl : (backTo pos (starEach es X.env)).any (·.1) = false := by rfl) : PD X W (.Call (.Name x p) (e :: es) [] pos) (eB op fs) := imp_E (pe_callB hc hg hm hv ha hn hdb he hpl) fun _ _ _ h => tCB_of hd h
theorem d_Ty {r : List V → Hp → VK → Prop} {op : List D → Option D} {T : String} {fs : EXs} (hc : CallR X (.type T) r) (hd : CallD X.K W r op) (hg : Gl X x) (hm : X.mg x = none) (hv : bootBuiltins x = some (.type T)) (ha : PDs X W (e :: es) fs) (hn : x ≠ "__name__" := by decide) (hdb : (x == ("__debug__" : Str)) = false := by decide)
    (he : starEach (e :: es) X.env = (false, eval e X.env) :: starEach es X.env := by rfl) (hpl : (backTo pos (starEach es X.env)).any (·.1) = false := by rfl) : PD X W (.Call (.Name x p) (e :: es) [] pos) (eB op fs) := imp_E (pe_callTy hc hg hm hv ha hn hdb he hpl) fun _ _ _ h => tCB_of hd h
end
end DL
end

section
set_option Elab.async false
set_option linter.all false
set_option autoImplicit false
set_option maxRecDepth 100000
set_option maxHeartbeats 4000000
namespace DL
open PySem PySem.Spec PyProof.Rows L2
/-! ### tuple * int, any count -/
theorem tuple_mulS (l : Addr) (items : Array Value) (n : Nat) (dd : Option Addr) (sl : Array (Option Value)) (x : Int) (u : Tok) (c0 : (decide (x < -(2 ^ 63)) || decide (x ≥ 2 ^ 63)) = false) (c1 : (items.isEmpty || x == 1) = true) :
    Meets (Builtin.«tuple.__mul__» ⟨[.ref l, .int x u], []⟩) (fun _ R s => s.heap.get? l = some { cls := .type "tuple", dict := dd, data := .seq items n, slots := sl } ∧
      R (.ok (.ret (Value.ref l))) s) :=
  .of_wp fun prog w A R s h => by
    obtain ⟨hp, g, d, tk, os⟩ := s
    obtain ⟨hl, h⟩ := h
    have f1 := AutoSeq1.idx_int
    wp_walk using wpAny_loadPart' hl
    repeat (first
      | (refine wpAny_ite_false (decide_eq_false (by rw [c0]; exact Bool.false_ne_true)) ?_; wp_walk using wpAny_loadPart' hl)
      | (refine wpAny_ite_true (decide_eq_true c1) ?_; wp_walk using wpAny_loadPart' hl))
    exact ⟨_, rfl, h⟩
theorem tuple_mulN (l : Addr) (items : Array Value) (n : Nat) (dd : Option Addr) (sl : Array (Option Value)) (x : Int) (u : Tok) (c0 : (decide (x < -(2 ^ 63)) || decide (x ≥ 2 ^ 63)) = false) (c1 : (items.isEmpty || x == 1) = false) (c2 : (decide (x ≤ 0) || items.isEmpty) = true) :
    Meets (Builtin.«tuple.__mul__» ⟨[.ref l, .int x u], []⟩) (fun _ R s => s.heap.get? l = some { cls := .type "tuple", dict := dd, data := .seq items n, slots := sl } ∧
      R (.ok (.ret (Value.ref s.heap.objs.size))) { s with heap := s.heap.push { cls := Value.type "tuple", data := Data.seq #[] }, toks := s.toks }) :=
  .of_wp fun prog w A R s h => by
    obtain ⟨hp, g, d, tk, os⟩ := s
    obtain ⟨hl, h⟩ := h
    have f1 := AutoSeq1.idx_int
    wp_walk using wpAny_loadPart' hl
    repeat (first
      | (refine wpAny_ite_false (decide_eq_false (by rw [c0]; exact Bool.false_ne_true)) ?_; wp_walk using wpAny_loadPart' hl)
      | (refine wpAny_ite_false (decide_eq_false (by rw [c1]; exact Bool.false_ne_true)) ?_; wp_walk using wpAny_loadPart' hl)
      | (refine wpAny_ite_true (decide_eq_true c2) ?_; wp_walk using wpAny_loadPart' hl))
    exact ⟨_, rfl, h⟩
def rRepA (K : PySem.W.Frag) : R2 := fun x y H Q => ∃ l k xs, x = .ref l ∧ y = .int k ∧ SqT K H l xs ∧ -1000000 ≤ k ∧ k ≤ 1000000 ∧ ((xs.length : Nat) : Int) * k ≤ 1000000 ∧ (xs = [] ∨ k = 1 → Q (.ref l) H) ∧ (xs ≠ [] → k ≠ 1 → ∀ p, H p = none → Q (.ref p) (upd H p (.tup (List.replicate k.toNat xs).flatten)))
section
variable {X : Cx}
theorem op_repA : OpR X (binaryOp .Mult) (rRepA X.K) := by
  intro pins s σ H x y v u Q I rx ry h
  obtain ⟨l, k, xs, rfl, rfl, hT, h1, h2, hz, q1, q2⟩ := h
  cases rx
  obtain ⟨t, rfl⟩ := ry
  obtain ⟨its, r, ⟨⟨cls, dd, data, sl⟩, ho, hc, n, hd⟩, hs⟩ := I.tuple hT
  simp only at hc hd
  subst hc hd
  have hle : its.length = xs.length := r.length.symm
  have hsz0 : its.toArray.size = xs.length := by rw [List.size_toArray, hle]
  have c0 : (decide (k < -(2 ^ 63)) || decide (k ≥ 2 ^ 63)) = false := by
    rw [decide_eq_false (by omega), decide_eq_false (by omega)] <;> rfl
  by_cases hone : xs = [] ∨ k = 1
  · have c1 : (its.toArray.isEmpty || k == 1) = true := by
      rcases hone with e | e
      · subst e
        have : its = [] := List.eq_nil_of_length_eq_zero (by rw [hle]; rfl)
        subst this; rfl
      · subst e; simp
    refine wpAny_binaryOp_repeat_ref (T := "tuple") (U := "int") (by decide) ⟨_, ho, rfl⟩ (fun s' => typeIs_int s' k t) noFill_tuple_mul F.fills_int_mul F.slot_int_rmul repeat_tuple F.slot_int_index.lookup
      (call_meets F.slot_int_rmul (typeIs_int s k t) F.entry_int_rmul (F.args_int_rmul_2 _ _) (int_rmul_tuple k t l its.toArray n dd sl)
        ⟨ho, rfl, ⟨_, ho, rfl⟩, call_meets F.slot_tuple_mul ⟨_, ho, rfl⟩ F.entry_tuple_mul (F.args_tuple_mul_2 _ _) (tuple_mulS l its.toArray n dd sl k t c0 c1) ⟨ho, ?_⟩⟩)
    exact ⟨.ref l, H, I, rfl, q1 hone⟩
  · have hne : xs ≠ [] := fun e => hone (.inl e)
    have hk1 : k ≠ 1 := fun e => hone (.inr e)
    have hn : its ≠ [] := fun e => hne (by
      rw [e] at hle
      exact List.eq_nil_of_length_eq_zero hle.symm)
    have hi : its.toArray.isEmpty = false := by
      cases its with
      | nil => exact absurd rfl hn
      | cons a b => rfl
    have c1 : (its.toArray.isEmpty || k == 1) = false := by
      rw [hi, Bool.false_or]
      exact beq_eq_false_iff_ne.mpr (by omega)
    by_cases hk : k ≤ 0
    · have c2 : (decide (k ≤ 0) || its.toArray.isEmpty) = true := by
        rw [decide_eq_true hk]; rfl
      refine wpAny_binaryOp_repeat_ref (T := "tuple") (U := "int") (by decide) ⟨_, ho, rfl⟩ (fun s' => typeIs_int s' k t) noFill_tuple_mul F.fills_int_mul F.slot_int_rmul repeat_tuple F.slot_int_index.lookup
        (call_meets F.slot_int_rmul (typeIs_int s k t) F.entry_int_rmul (F.args_int_rmul_2 _ _) (int_rmul_tuple k t l its.toArray n dd sl)
          ⟨ho, rfl, ⟨_, ho, rfl⟩, call_meets F.slot_tuple_mul ⟨_, ho, rfl⟩ F.entry_tuple_mul (F.args_tuple_mul_2 _ _) (tuple_mulN l its.toArray n dd sl k t c0 c1 c2) ⟨ho, ?_⟩⟩)
      have e0 : (List.replicate k.toNat xs).flatten = [] := by
        have : k.toNat = 0 := by omega
        rw [this]; rfl
      have q2' := q2 hne hk1
      rw [e0] at q2'
      refine ⟨.ref s.heap.objs.size, _, I.laid (t' := s.toks) (o := .tup []) (fun b ob q => Heap.get?_push_of_some _ q) (Nat.le_refl _) ?_, rfl, q2' _ (I.hok.fresh (Nat.le_refl _))⟩
      exact ⟨Nat.zero_le _, [], .nil, IsTup.new _ _⟩
    · have c2 : (decide (k ≤ 0) || its.toArray.isEmpty) = false := by
        rw [hi, Bool.or_false]
        exact decide_eq_false (by omega)
      have hm : ((its.toArray.size : Nat) : Int) * k ≤ 1000000 := by rw [hsz0]; exact hz
      have c4 : Builtin.Tuple.tupleTooMany (((its.toArray.size : Nat) : Int) * k) = false := by
        unfold Builtin.Tuple.tupleTooMany
        rw [sizeLine_eq]
        exact decide_eq_false (by omega)
      have flen : k.toNat * xs.length ≤ 1000000 := by
        have : ((k.toNat * xs.length : Nat) : Int) ≤ 1000000 := by
          rw [Int.natCast_mul, Int.toNat_of_nonneg (by omega), Int.mul_comm]; exact hz
        omega
      refine wpAny_binaryOp_repeat_ref (T := "tuple") (U := "int") (by decide) ⟨_, ho, rfl⟩ (fun s' => typeIs_int s' k t) noFill_tuple_mul F.fills_int_mul F.slot_int_rmul repeat_tuple F.slot_int_index.lookup
        (call_meets F.slot_int_rmul (typeIs_int s k t) F.entry_int_rmul (F.args_int_rmul_2 _ _) (int_rmul_tuple k t l its.toArray n dd sl)
          ⟨ho, rfl, ⟨_, ho, rfl⟩, call_meets F.slot_tuple_mul ⟨_, ho, rfl⟩ F.entry_tuple_mul (F.args_tuple_mul_2 _ _) (tuple_mulW l its.toArray n dd sl k t c0 c1 c2 (by omega) c4 (by rw [size_rep, List.size_toArray, PyProof.Rows.lm_len_rep_flat, hle, sizeLine_eq]; omega)) ⟨ho, ?_⟩⟩)
      rw [size_rep]
      refine ⟨.ref s.heap.objs.size, _, I.laid (t' := s.toks) (o := .tup (List.replicate k.toNat xs).flatten) (fun b ob q => Heap.get?_push_of_some _ q) (Nat.le_refl _) ?_, rfl, q2 hne hk1 _ (I.hok.fresh (Nat.le_refl _))⟩
      exact ⟨by rw [PyProof.Rows.lm_len_rep_flat, sizeLine_eq]; omega, _, r.rep k.toNat, IsTup.new _ _⟩
end
end DL
end

section
set_option Elab.async false
set_option linter.all false
set_option autoImplicit false
set_option maxRecDepth 100000
set_option maxHeartbeats 1000000
namespace DL
open PySem PySem.Spec L2
open PyProof.Rows (envOfC)
section
variable {X : Cx} {W : Wd}
/-! ### products -/
def dMul : D → D → Option D
  | .int a, .int b => if small64 a || small64 b then some (.int (a * b)) else none
  | .tup xs, .int k => if decide (-1000000 ≤ k) && decide (k ≤ 1000000) && decide (((xs.length : Nat) : Int) * k ≤ 1000000) then some (.tup (List.replicate k.toNat xs).flatten) else none
  | _, _ => none
theorem d_mul {a b : Expr} {fa fb : EX} {pos : Pos} (ha : PD X W a fa) (hb : PD X W b fb) : PD X W (.BinOp a .Mult b pos) (e2 dMul fa fb) := d_op (op_mul.or op_repA) (by
  intro fr F H σ ρ n x y d v u Q R dx dy h k
  unfold dMul at h
  split at h
  · split at h
    · rename_i q
      rw [Bool.or_eq_true] at q
      cases dx; cases dy; cases h
      exact .inl ⟨_, _, rfl, rfl, q.imp small64_ok small64_ok, k F H _ R (Sub.refl _) (.int _)⟩
    · cases h
  · split at h
    · rename_i xs kk q
      simp only [Bool.and_eq_true, decide_eq_true_eq] at q
      cases dx with
      | tup h1 h2 =>
        cases dy; cases h
        refine .inr ⟨_, _, _, rfl, rfl, R.core.sub.sqT h1, q.1.1, q.1.2, by rw [h2.length]; exact q.2, fun e => ?_, fun e1 e2 => put_tup R (h2.rep _) k⟩
        have : (List.replicate kk.toNat xs).flatten = xs := by
          rcases e with e | e
          · rw [(dens_ne h2).mp e]; simp
          · subst e; simp
        rw [this] at k
        exact k F H _ R (Sub.refl _) (.tup h1 h2)
    · cases h
  · cases h) ha hb

/-! ### attributes, methods, instances -/
def dFld (c : Nat) (f : Str) : D → Option D
  | .obj c' ks vs => if c' = c then (ks.zip vs).lookup f else none
  | _ => none
theorem lookup_zip {K : PySem.W.Frag} {dr : Option Addr} {F : Hp} {f : Str} {d : D} : ∀ {ks : List Str} {vs : List V} {ds : List D}, ks.length = vs.length → Dens K W dr F vs ds → (ks.zip ds).lookup f = some d → ∃ v, (ks.zip vs).lookup f = some v ∧ Den K W dr F v d
  | [], _, _, _, _, e => by simp at e
  | k :: ks, [], _, l, _, _ => by simp at l
  | k :: ks, v :: vs, _, l, .cons h r, e => by
    rw [List.zip_cons_cons, List.lookup_cons] at e
    rw [List.zip_cons_cons, List.lookup_cons]
    split at e
    · cases e
      exact ⟨v, rfl, h⟩
    · exact lookup_zip (by simpa using l) r e
theorem lookup_zip_none {f : Str} : ∀ {ks : List Str} {vs : List V} {ds : List D}, ks.length = vs.length → vs.length = ds.length → (ks.zip ds).lookup f = none → (ks.zip vs).lookup f = none
  | [], _, _, _, _, _ => by simp
  | k :: ks, [], _, l, _, _ => by simp at l
  | k :: ks, v :: vs, [], _, l, _ => by simp at l
  | k :: ks, v :: vs, d :: ds, l, l', e => by
    rw [List.zip_cons_cons, List.lookup_cons] at e
    rw [List.zip_cons_cons, List.lookup_cons]
    split at e
    · cases e
    · exact lookup_zip_none (by simpa using l) (by simpa using l') e
theorem d_fld {e : Expr} {f : Str} {fx : EX} {c : Nat} {pos : Pos} (cl : Cls X.K (W.cl c)) (na : NoAttr X.K (W.cl c) f) (he : PD X W e fx) (hb : attributeBase e f X.env (eval e X.env) = eval e X.env := by rfl) : PD X W (.Attribute e f pos) (e1 (dFld c f) fx) := imp_E (pe_fld he hb) fun σ H Q ⟨fr, F, ρ, n, r, n', R, e, k⟩ => by
  rcases r with z | d
  · exact R.dE1 e k
  obtain ⟨x, n1, h1, h⟩ := M.bind_ok e
  obtain ⟨h2, h3⟩ := M.opt_ok h
  subst h3
  refine ⟨fr, F, ρ, n, .ok x, _, R, h1, fun F1 H1 v R1 s1 d1 => ?_⟩
  unfold dFld at h2
  split at h2
  · split at h2
    · rename_i c' ks vs q
      subst q
      cases d1 with
      | obj l hF hd =>
        obtain ⟨u, e1, e2⟩ := lookup_zip l hd h2
        exact ⟨_, _, _, _, u, rfl, R1.core.sub _ _ hF, cl, na, e1, k F1 H1 u R1 s1 e2⟩
    · cases h2
  · cases h2
/-- o.m(..): o, then the others -/
def isObj (c : Nat) (m : Str) : D → Bool
  | .obj c' ks vs => decide (c' = c) && ((ks.zip vs).lookup m).isNone
  | _ => false
def eMeth (c : Nat) (m : Str) (fx : FX) (fo : EX) (fs : EXs) : EX := fun ρ => M.bind (fo ρ) fun o => if isObj c m o then M.bind (fs ρ) fun ds => fx (o :: ds) else M.opt none
/-- o.m(..) where what is raised is wished for at the slots -/
def tMethS (C : Addr) (m : Str) (sp : Sp) (E : St → XK) (ta : TE) (t : TA) : TE := fun σ H Q => ta σ H fun x H1 => ∃ a dx fs, x = .ref a ∧ H1 a = some (.ins C dx fs) ∧ fs.lookup m = none ∧ t σ H1 fun vs H2 => sp (.ref a :: vs) H2 Q (E σ)
theorem pe_methS {C : Addr} {CX : CXT} {k : Nat} {f : Addr} {fd : FuncData} {ps : List Str} {m : Str} {pos apos : Pos} {e o : Expr} {es : List Expr} {sp : Sp} {E : St → XK} {ta : TE} {t : TA} {pl : Sem Bool} (ho : PE X o ta) (cl : Cls X.K C) (hm : Meth X.K C m f)
    (F : FnOk X.prog X.w X.K X.mg X.base CX k f fd ps sp) (hr : Room k X.A) (hb : Binds X.K fd ps []) (hx : ∀ σ, PassesAt CX X σ (E σ)) (ha : PA X (e :: es) t)
    (hst : starEach (e :: es) X.env = (false, eval e X.env) :: starEach es X.env) (hpl : (backTo pos (starEach es X.env)).any (·.1) = false)
    (ht : eval (.Call (.Attribute o m apos) (e :: es) [] pos) X.env = (do
      let ov ← eval o X.env
      standAt apos.atName
      let (f, first) ← holding [ov] (getMethod ov m pl)
      callWith pos f first (backTo pos (starEach (e :: es) X.env)) (backToKw pos (keywordEach [] X.env)))) : PE X (.Call (.Attribute o m apos) (e :: es) [] pos) (tMethS C m sp E ta t) := by
  constructor
  intro pins s σ H Q I h
  refine PySem.W.methodCall_KW (pl := pl) (thn (ho.run pins s σ H _ I h) ?_) ht
  rintro u s1 ⟨x, H1, I1, rx, a, dx, fs, ex, ea, l, q⟩
  subst ex
  have eu : RelV (.ref a) (.ref a) := rfl
  have ev : u = Value.ref a := rx
  subst ev
  refine getmeth_ok I1 ea cl hm l (PySem.W.callWith_K (h₀ := X.base) (first := [.ref a]) I.ok.mod.kin hm.kp (thn (ha.run pos pins s1 σ H1 _ I1 q) ?_) hst hpl)
  rintro us s2 ⟨vs, H2, I2, r, q2⟩
  exact ⟨I2.kIn, run_fnS (us := .ref a :: us) (vs := .ref a :: vs) F hr hb (hx σ) I2 (.cons eu r) q2⟩
theorem tMeth_of {c : Nat} {m : Str} {fx : FX} {fo : EX} {fs : EXs} {mm : Nat} (hm : ∀ ρ n ds n', fs ρ n = some (.ok ds, n') → ds.length = mm) {σ : St} {H : Hp} {Q : VK} (h : tD X W (eMeth c m fx fo fs) σ H Q) :
    tMethS (W.cl c) m (spD X.K W fx (mm + 1)) (EA W.md X) (tD X W fo) (tDs X W fs) σ H Q := by
  obtain ⟨fr, F, ρ, n, r, n', R, e, k⟩ := h
  rcases M.bind_any e with ⟨z, e1, rfl⟩ | ⟨o, n1, e1, h1⟩
  · exact ⟨fr, F, ρ, n, .error z, n', R, e1, k⟩
  refine ⟨fr, F, ρ, n, .ok o, n1, R, e1, fun F1 H1 v R1 s1 d1 => ?_⟩
  split at h1
  · rename_i q
    unfold isObj at q
    split at q
    · rw [Bool.and_eq_true, decide_eq_true_eq] at q
      obtain ⟨q1, q2⟩ := q
      subst q1
      cases d1 with
      | obj l hF hd =>
        refine ⟨_, _, _, rfl, R1.core.sub _ _ hF, lookup_zip_none l hd.length (Option.isNone_iff_eq_none.mp q2), ?_⟩
        rcases M.bind_any h1 with ⟨z, e2, rfl⟩ | ⟨ds, n2, e2, h2⟩
        · exact ⟨fr, F1, ρ, n1, .error z, n', R1, e2, KX.mono k s1⟩
        exact ⟨fr, F1, ρ, n1, .ok ds, n2, R1, e2, fun F2 H2 vs R2 s2 d2 => callee_back (F := F) (by rw [List.length_cons, hm _ _ _ _ e2]) R2 (s1.trans s2) (.cons (.obj l (s2 _ _ hF) (hd.mono s2 fun _ z => z)) d2) h2 k⟩
    · cases q
  · obtain ⟨_, q⟩ := M.opt_any h1
    cases q
theorem d_meth {k : Nat} {c : Nat} {f : Addr} {fd : FuncData} {ps : List Str} {m : Str} {pos apos : Pos} {e o : Expr} {es : List Expr} {fx : FX} {fo : EX} {fs : EXs} {mm : Nat} {pl : Sem Bool} (ho : PD X W o fo) (cl : Cls X.K (W.cl c)) (hm : Meth X.K (W.cl c) m f)
    (F : FnOk X.prog X.w X.K X.mg X.base (CXm W.md X.prog X.w) k f fd ps (spD X.K W fx (mm + 1))) (hr : Room k X.A) (hb : Binds X.K fd ps []) (ha : PDs X W (e :: es) fs) (hl : ∀ ρ n ds n', fs ρ n = some (.ok ds, n') → ds.length = mm)
    (hst : starEach (e :: es) X.env = (false, eval e X.env) :: starEach es X.env := by rfl) (hpl : (backTo pos (starEach es X.env)).any (·.1) = false := by rfl)
    (ht : eval (.Call (.Attribute o m apos) (e :: es) [] pos) X.env = (do
      let ov ← eval o X.env
      standAt apos.atName
      let (f, first) ← holding [ov] (getMethod ov m pl)
      callWith pos f first (backTo pos (starEach (e :: es) X.env)) (backToKw pos (keywordEach [] X.env))) := by rfl) :
    PD X W (.Call (.Attribute o m apos) (e :: es) [] pos) (eMeth c m fx fo fs) := imp_E (pe_methS (E := EA W.md X) ho cl hm F hr hb (fun _ => passEA) ha hst hpl ht) fun _ _ _ h => tMeth_of hl h
/-! ### a new instance -/
/-- the promise of an __init__ that raises nothing: f: the arguments to the instance -/
def spI (K : PySem.W.Frag) (W : Wd) (f : FX) (c m : Nat) : Sp := fun vs H Q E => vs.length = m + 1 ∧ ∃ fr F n p dx us ds r n', vs = .ref p :: us ∧ H p = some (.ins (W.cl c) dx []) ∧ F p = none ∧ fr.dr ≠ some p ∧ Core K W fr F H n ∧ Dens K W fr.dr F us ds ∧ f ds n = some (r, n') ∧
  Res (fun d => isO d = true ∧ ∀ F' H', Core K W ⟨fr.dr, fr.sa, mask H, F, fun a => a = p⟩ F' H' n' → F' p = none → MDen K W fr.dr F' H' p d → Q .non H') (fun z => ∀ F' H' cls x, Core K W ⟨fr.dr, fr.sa, mask H, F, fun a => a = p⟩ F' H' n' → XDen K W fr.dr F' H' z cls x → E cls x H') r
def runI (N P c : Nat) (g : SX) : FX := fun ds => M.bind (g (Sl.own (.obj c [] []) :: ds.map Sl.val ++ List.replicate (N - P) Sl.no)) fun o => match o with
  | .nx (Sl.own d :: _) => M.pure d
  | _ => M.opt none
end
section
variable {P : Program} {w : World} {K : PySem.W.Frag} {mg : Str → Option Value} {base : Heap} {W : Wd}
theorem okI {x qual : Str} {st : Stmt} {f : Addr} {fd : FuncData} {N ps : List Str} {k m cc : Nat} {g : SX} (F : Fun K x qual st f fd) (S : FnScope N ps (defScope st)) (hps : ps.length = m + 1)
    (body : ∀ (cdv : Value) (A : Around) (outer : List PySem.Env) (s : Shared) (H : Hp) (E : XK), Room k (A.deeper (envOfC qual (defScope st) s.heap.objs.size f cdv)) → PDSs (cxOf (CXm W.md P w) P w K mg base N qual (defScope st) f cdv A outer s H E) W (defBody st) g) :
    FnOk P w K mg base (CXm W.md P w) (k + 1) f fd ps (spI K W (runI N.length (m + 1) cc g) cc m) := by
  refine fn_okX F S (fun vs H Q E h => by rw [hps]; exact h.1) fun cdv A outer s H vs Q E hr h => ?_
  obtain ⟨hl, fr, F0, n, p, dx, us, ds, r, n', rfl, hp, hF, hdr, c, dd, e, k⟩ := h
  refine ⟨_, body cdv A outer s H E hr, ?_⟩
  have c' : Core K W ⟨fr.dr, fr.sa, mask H, F0, fun a => a = p⟩ F0 H n := ⟨c.sub, fun _ _ h _ _ => (of_mask h).1, Sub.refl _, fun _ _ _ h => h, fun _ o h => ⟨o, of_mask h⟩, c.draw, c.ntF, c.tabs⟩
  have hus : us.length = m := by simpa using hl
  have key : ∀ (i : Nat) (e : Sl), (Sl.own (.obj cc [] []) :: ds.map Sl.val ++ List.replicate (N.length - (m + 1)) Sl.no)[i]? = some e → e ≠ .no → (i = 0 ∧ e = .own (.obj cc [] [])) ∨ ∃ d j, i = j + 1 ∧ ds[j]? = some d ∧ e = .val d := fun i e q ne => by
    cases i with
    | zero => left; simp at q; exact ⟨rfl, q.symm⟩
    | succ j =>
      right
      rw [List.cons_append, List.getElem?_cons_succ] at q
      by_cases hi : j < ds.length
      · rw [List.getElem?_append_left (by simpa using hi), List.getElem?_map] at q
        cases z : ds[j]? with
        | none => rw [z] at q; cases q
        | some d' => rw [z] at q; cases q; exact ⟨d', j, rfl, z, rfl⟩
      · rw [List.getElem?_append_right (by simpa using hi)] at q
        have := List.mem_of_getElem? q
        rw [List.mem_replicate] at this
        exact absurd this.2 ne
  have R : Rel K W ⟨fr.dr, fr.sa, mask H, F0, fun a => a = p⟩ F0 H (L2.start N (.ref p :: us)) (Sl.own (.obj cc [] []) :: ds.map Sl.val ++ List.replicate (N.length - (m + 1)) Sl.no) n := by
    refine ⟨c', fun _ => p, ?_, fun i e q => ?_, fun i e q => ?_, fun i j e e' q q' _ => ?_, fun i o f q => ?_⟩
    rotate_left 4
    · rcases key i _ q (by simp) with ⟨_, h⟩ | ⟨d', j, rfl, h1, h2⟩
      · cases h
      · cases h2
    · unfold L2.start; simp [← dd.length, hus]
    · rcases key i _ q (by simp) with ⟨_, h⟩ | ⟨d', j, rfl, h1, h2⟩
      · cases h
      · cases h2
        obtain ⟨v, h3, h4⟩ := dd.get h1
        refine ⟨v, ?_, h4⟩
        unfold L2.start
        have hi := (List.getElem?_eq_some_iff.mp h3).1
        rw [List.map_cons, List.cons_append, List.getElem?_cons_succ, List.getElem?_append_left (by simpa using hi), List.getElem?_map, h3]; rfl
    · rcases key i _ q (by simp) with ⟨rfl, h⟩ | ⟨d', j, rfl, h1, h2⟩
      · cases h
        exact ⟨rfl, hF, hdr, .inr rfl, ⟨dx, [], rfl, hp, .nil⟩, .inl ⟨rfl, rfl⟩⟩
      · cases h2
    · rcases key i _ q (by simp) with ⟨rfl, h⟩ | ⟨d', j', rfl, h1, h2⟩
      · rcases key j _ q' (by simp) with ⟨rfl, h⟩ | ⟨d', j', rfl, h1, h2⟩
        · rfl
        · cases h2
      · cases h2
  rcases M.bind_any e with ⟨z, e1, rfl⟩ | ⟨o, n1, e1, h1⟩
  · exact ⟨_, F0, _, n, .error z, n', R, e1, fun F' H' σ' cls d c' s' x => acc_of rfl rfl rfl rfl (k F' H' cls d c' x)⟩
  refine ⟨_, F0, _, n, .ok o, n1, R, e1, ?_⟩
  split at h1
  · obtain ⟨a1, a2⟩ := M.pure_any h1
    subst a1 a2
    obtain ⟨k0, k⟩ := k
    intro F' H' σ' R' s'
    obtain ⟨ad, sl⟩ := R'.slots
    obtain ⟨q1, q2, q3, q4, q5, q7⟩ := sl.own 0 _ rfl
    have q6 : ad 0 = p := by
      rcases q7 with q7 | q7
      · exact q7.2
      · rw [k0] at q7; cases q7.1
    rw [q6] at q2 q5
    exact k F' H' R'.core q2 q5
  · obtain ⟨_, q⟩ := M.opt_any h1
    cases q
end
end DL
end

section
set_option Elab.async false
set_option linter.all false
set_option autoImplicit false
set_option maxRecDepth 100000
set_option maxHeartbeats 1000000
namespace DL
open PySem PySem.Spec L2
section
variable {K : PySem.W.Frag} {W : Wd} {fr : Fr} {F F' H H2 H' : Hp} {σ : St} {ρ : Env} {n n' : Int} {x : Addr}
theorem Rel.backM (r : Rel K W fr F H σ ρ n) (hx : H x = none) (h2 : ∀ a o, H a = some o → H2 a = some o) (d : Core K W ⟨fr.dr, fr.sa, mask H2, F, fun a => a = x⟩ F' H' n') : Rel K W fr F' H' σ ρ n' := by
  have c := r.core
  have old : ∀ a o, H a = some o → NT o → fr.dr ≠ some a → H' a = some o := fun a o q nt z => d.base a o (mask_of (h2 _ _ q) nt) z fun e => by
    have e : a = x := e
    rw [e, hx] at q; cases q
  refine r.keep ⟨d.sub, fun a o q1 q2 q3 => ?_, c.f0.trans d.f0, fun a o q1 q2 => ?_, fun a o q => ?_, d.draw, d.ntF, d.tabs⟩ d.f0 old fun a o q nt z => d.new a o (mask_of (h2 _ _ q) nt) z
  · have h := c.base a o q1 q2 q3
    obtain ⟨o', q, nt⟩ := c.there a o q1
    rw [h] at q; cases q
    exact old a o h nt q2
  · obtain ⟨o', q, nt⟩ := c.there a o q1
    exact d.new a o' (mask_of (h2 _ _ q) nt) (c.new a o q1 q2)
  · obtain ⟨o', q', nt⟩ := c.there a o q
    exact d.there a o' (mask_of (h2 _ _ q') nt)
end
section
variable {X : Cx} {W : Wd} {k : Nat} {f : Addr} {fd : FuncData} {ps : List Str} {x m : Str} {p pos apos : Pos} {e o : Expr} {es : List Expr}
theorem mden_den {K : PySem.W.Frag} {dr : Option Addr} {F H : Hp} {a : Addr} {d : D} (nd : dctD d = false) (m : MDen K W dr F H a d) (hF : F a = none) : ∃ o, H a = some o ∧ Den K W dr (upd F a o) (.ref a) d ∧ NT o := by
  have up : ∀ o, Sub F (upd F a o) := fun o b u q => by rw [upd_ne (ne_of_none q hF)]; exact q
  cases d with
  | lst ds => obtain ⟨vs, e, q⟩ := m; exact ⟨_, e, .lst upd_same (q.mono (up _) fun _ z => z), fun _ z => by cases z⟩
  | dic ks ds => cases nd
  | dit ks ds => cases nd
  | obj c ks ds => obtain ⟨dx, vs, l, e, q⟩ := m; exact ⟨_, e, .obj l upd_same (q.mono (up _) fun _ z => z), fun _ z => by cases z⟩
  | non => exact m.elim
  | bl _ => exact m.elim
  | int _ => exact m.elim
  | str _ => exact m.elim
  | tup _ => exact m.elim
  | drw => exact m.elim
  | scr => exact m.elim
  | rng _ _ => exact m.elim
  | odd _ _ => exact m.elim
/-- C(..) -/
def eMake (c : Nat) (fx : FX) (fs : EXs) : EX := fun ρ => M.bind (fs ρ) fun ds => M.bind (fx ds) fun d => match d with
  | .obj c' ks vs => if c' = c then M.pure (.obj c' ks vs) else M.opt none
  | _ => M.opt none
def tMakeS (C : Addr) (sp : Sp) (E : St → XK) (t : TA) : TE := fun σ H Q => t σ H fun vs H1 => ∀ x dx, H1 x = none → H1 dx = none → dx ≠ x → sp (.ref x :: vs) (upd (upd H1 dx (.own x)) x (.ins C dx [])) (fun v H2 => v = .non ∧ Q (.ref x) H2) (E σ)
theorem run_makeS {C : Addr} {CX : CXT} {sp : Sp} {E : St → XK} {pins : List (Addr × Obj)} {σ : St} {H : Hp} {s : Shared} {Q : VK} {us : List Value} {vs : List V} (Mm : Mk X.K C f) (F : FnOk X.prog X.w X.K X.mg X.base CX k f fd ps sp) (hr : Room (k + 1) X.A) (hb : Binds X.K fd ps [])
    (hx : PassesAt CX X σ (E σ)) (I : Inv X pins σ H s) (r : Vals vs us)
    (h : ∀ x dx, H x = none → H dx = none → dx ≠ x → sp (.ref x :: vs) (upd (upd H dx (.own x)) x (.ins C dx [])) (fun v H2 => v = .non ∧ Q (.ref x) H2) (E σ)) :
    wpAny (model X.prog X.w) X.A (call (.ref C) us) (EP X pins σ Q) X.xe s := by
  obtain ⟨dx, edx⟩ : ∃ dx, dx = s.heap.objs.size := ⟨_, rfl⟩
  obtain ⟨x, ex⟩ : ∃ x, x = s.heap.objs.size + 1 := ⟨_, rfl⟩
  have hq := h x dx (I.hok.fresh (by rw [ex]; exact Nat.le_succ _)) (I.hok.fresh (by rw [edx]; exact Nat.le_refl _)) (by rw [edx, ex]; exact Nat.ne_of_lt (Nat.lt_succ_self _))
  subst edx ex
  have J := Inv.made (C := C) I
  have r2 : Vals (V.ref (s.heap.objs.size + 1) :: vs) (Value.ref (s.heap.objs.size + 1) :: us) := .cons rfl r
  have hl : (Value.ref (s.heap.objs.size + 1) :: us ++ []).length = ps.length := by
    have e := r2.length
    rw [F.len _ _ _ _ hq] at e
    rw [List.append_nil]
    exact e.symm
  have b := hb _ (Value.ref (s.heap.objs.size + 1) :: us) J.kIn hl
  rw [List.append_nil] at b
  refine wpAny_call (make_map (f := f) I.kIn Mm.makes Mm.init (beq_iff_eq.mp Mm.fn) (codeAny_mono (F.run _ X.stack _ _ _ _ _ _ (E σ) (hr.make C us []) (J.env0.make C us []) b r2 hq) ?_))
  rintro (e | fl) s' hq'
  · exact hx pins _ _ e s' J hq'
  · cases fl with
    | ret u =>
      obtain ⟨v, H', I3, rv, ev, q3⟩ := J.after hq'
      rw [ev] at rv
      exact ⟨rv, V.ref (s.heap.objs.size + 1), H', I3, rfl, q3⟩
    | next => exact hq'.elim
    | brk => exact hq'.elim
    | cont => exact hq'.elim
theorem pe_makeS {C : Addr} {CX : CXT} {sp : Sp} {E : St → XK} {t : TA} (Mm : Mk X.K C f) (F : FnOk X.prog X.w X.K X.mg X.base CX k f fd ps sp) (hr : Room (k + 1) X.A) (hg : Gl X x) (hm : X.mg x = some (.ref C)) (hb : Binds X.K fd ps []) (hx : ∀ σ, PassesAt CX X σ (E σ))
    (ha : PA X (e :: es) t) (hdb : (x == ("__debug__" : Str)) = false) (he : starEach (e :: es) X.env = (false, eval e X.env) :: starEach es X.env) (hpl : (backTo pos (starEach es X.env)).any (·.1) = false) :
    PE X (.Call (.Name x p) (e :: es) [] pos) (tMakeS C sp E t) := by
  constructor
  intro pins s σ H Q I h
  refine wpAny_Call_Name_kw (ld_glob I hg hm (PySem.W.callWith_K (h₀ := X.base) I.ok.mod.kin Mm.kp (thn (ha.run pos pins s σ H _ I h) ?_) he hpl) hdb)
  rintro us s1 ⟨vs, H1, I1, r, q⟩
  exact ⟨I1.kIn, run_makeS Mm F hr hb (hx σ) I1 r q⟩
theorem tMake_of {c mm : Nat} {fx : FX} {fs : EXs} (hm : ∀ ρ n ds n', fs ρ n = some (.ok ds, n') → ds.length = mm) {σ : St} {H : Hp} {Q : VK} (h : tD X W (eMake c fx fs) σ H Q) : tMakeS (W.cl c) (spI X.K W fx c mm) (EA W.md X) (tDs X W fs) σ H Q := by
  obtain ⟨fr, F, ρ, n, r, n', R, e, k⟩ := h
  rcases M.bind_any e with ⟨z, e1, rfl⟩ | ⟨ds, n1, e1, h1⟩
  · exact ⟨fr, F, ρ, n, .error z, n', R, e1, k⟩
  refine ⟨fr, F, ρ, n, .ok ds, n1, R, e1, fun F1 H1 vs R1 s1 d1 => ?_⟩
  intro x dx hx hdx hne
  have h2 : ∀ a o, H1 a = some o → (upd (upd H1 dx (.own x)) x (.ins (W.cl c) dx [])) a = some o := fun a o q => by
    rw [upd_ne (ne_of_none q hx), upd_ne (ne_of_none q hdx)]; exact q
  have c1 := R1.core
  have F1x := c1.noF hx
  have c3 : Core X.K W fr F1 (upd (upd H1 dx (.own x)) x (.ins (W.cl c) dx [])) n1 := ⟨fun a o q => h2 _ _ (c1.sub _ _ q), fun a o q q2 q3 => h2 _ _ (c1.base a o q q2 q3), c1.f0, c1.new, fun a o q => by
    obtain ⟨o', z, nt⟩ := c1.there a o q
    exact ⟨o', h2 _ _ z, nt⟩, fun a q => by
    obtain ⟨a1, a2, a3⟩ := c1.draw a q
    exact ⟨a1, h2 _ _ a2, a3⟩, c1.ntF, tabs_keep c1.tabs fun a o q _ => h2 _ _ q⟩
  rcases M.bind_any h1 with ⟨z, e2, rfl⟩ | ⟨d', n2, e2, h3⟩
  · exact ⟨by rw [List.length_cons, d1.length, hm _ _ _ _ e1], fr, F1, n1, x, dx, vs, ds, .error z, n', rfl, upd_same, F1x, c1.ndr hx, c3, d1, e2, fun F' H' cls d c2 xx => k F' H' cls d (R1.backM hx h2 c2) (s1.trans c2.f0) xx⟩
  split at h3
  · split at h3
    · obtain ⟨b1, b2⟩ := M.pure_any h3
      rename_i c' ks fs' q
      subst q
      subst b1 b2
      refine ⟨by rw [List.length_cons, d1.length, hm _ _ _ _ e1], fr, F1, n1, x, dx, vs, ds, .ok (.obj c' ks fs'), _, rfl, upd_same, F1x, c1.ndr hx, c3, d1, e2, rfl, fun F' H' c2 q1 q2 => ⟨rfl, ?_⟩⟩
      have R2 := R1.backM hx h2 c2
      obtain ⟨o, z1, z2, z3⟩ := mden_den rfl q2 q1
      obtain ⟨u1, R3⟩ := R2.addF z1 q1 (c1.noH0 hx) (c1.ndr hx) (R1.noOwn hx) z3
      exact k _ H' _ R3 ((s1.trans c2.f0).trans u1) z2
    · obtain ⟨_, q⟩ := M.opt_any h3
      cases q
  · obtain ⟨_, q⟩ := M.opt_any h3
    cases q
theorem d_make {c mm : Nat} {fx : FX} {fs : EXs} (Mm : Mk X.K (W.cl c) f) (F : FnOk X.prog X.w X.K X.mg X.base (CXm W.md X.prog X.w) k f fd ps (spI X.K W fx c mm)) (hr : Room (k + 1) X.A) (hg : Gl X x) (hm : X.mg x = some (.ref (W.cl c))) (hb : Binds X.K fd ps [])
    (ha : PDs X W (e :: es) fs) (hl : ∀ ρ n ds n', fs ρ n = some (.ok ds, n') → ds.length = mm) (hdb : (x == ("__debug__" : Str)) = false := by decide) (he : starEach (e :: es) X.env = (false, eval e X.env) :: starEach es X.env := by rfl) (hpl : (backTo pos (starEach es X.env)).any (·.1) = false := by rfl) :
    PD X W (.Call (.Name x p) (e :: es) [] pos) (eMake c fx fs) := imp_E (pe_makeS (E := EA W.md X) Mm F hr hg hm hb (fun _ => passEA) ha hdb he hpl) fun _ _ _ h => tMake_of hl h

/-! ### one's own: fields, lists, dicts -/
def putKs (f : Str) : List Str → List Str
  | [] => [f]
  | g :: r => if g = f then g :: r else g :: putKs f r
def putVs {α : Type} (f : Str) (d : α) : List Str → List α → List α
  | [], _ => [d]
  | g :: r, v :: vs => if g = f then d :: vs else v :: putVs f d r vs
  | _ :: _, [] => []
theorem putKs_length {α : Type} (f : Str) (d : α) : ∀ {ks : List Str} {vs : List α}, ks.length = vs.length → (putKs f ks).length = (putVs f d ks vs).length
  | [], [], _ => rfl
  | [], _ :: _, l => by simp at l
  | g :: r, [], l => by simp at l
  | g :: r, v :: vs, l => by
    unfold putKs putVs
    split
    · exact l
    · simp [putKs_length f d (ks := r) (vs := vs) (by simpa using l)]
theorem putF_zip (f : Str) (v : V) : ∀ {ks : List Str} {vs : List V}, ks.length = vs.length → putF f v (ks.zip vs) = (putKs f ks).zip (putVs f v ks vs)
  | [], [], _ => rfl
  | [], _ :: _, l => by simp at l
  | g :: r, [], l => by simp at l
  | g :: r, u :: vs, l => by
    rw [List.zip_cons_cons]
    unfold putF putKs putVs
    split
    · rw [List.zip_cons_cons]
    · rw [List.zip_cons_cons, putF_zip f v (by simpa using l)]
theorem Dens.putVs {K : PySem.W.Frag} {dr : Option Addr} {F : Hp} (f : Str) {v : V} {d : D} (h : Den K W dr F v d) : ∀ {ks : List Str} {vs : List V} {ds : List D}, ks.length = vs.length → Dens K W dr F vs ds → Dens K W dr F (putVs f v ks vs) (putVs f d ks ds)
  | [], [], _, _, .nil => .cons h .nil
  | [], _ :: _, _, l, _ => by simp at l
  | g :: r, [], _, l, _ => by simp at l
  | g :: r, u :: vs, _, l, .cons q s => by
    unfold DL.putVs
    split
    · exact .cons h s
    · exact .cons q (Dens.putVs f h (by simpa using l) s)
def own? (ρ : Env) (i : Nat) : Option D := match ρ[i]? with
  | some (Sl.own d) => some d
  | _ => none
theorem own_some {ρ : Env} {i : Nat} {d : D} (h : own? ρ i = some d) : ρ[i]? = some (Sl.own d) := by
  unfold own? at h
  split at h
  · cases h; assumption
  · cases h
/-- what is one's own is changed by a value -/
def sUp (i : Nat) (up : D → D → Option D) (fx : EX) : SX := fun ρ => M.bind (fx ρ) fun d => M.bind (M.opt ((own? ρ i).bind (up d))) fun o => M.pure (.nx (ρ.set i (.own o)))
theorem sUp_ok {i : Nat} {up : D → D → Option D} {fx : EX} {ρ : Env} {n n' : Int} {o : Out} (h : sUp i up fx ρ n = some (.ok o, n')) : ∃ d a b, fx ρ n = some (.ok d, n') ∧ ρ[i]? = some (Sl.own a) ∧ up d a = some b ∧ o = .nx (ρ.set i (.own b)) := by
  obtain ⟨d, n1, e1, h1⟩ := M.bind_ok h
  obtain ⟨b, n2, e2, h2⟩ := M.bind_ok h1
  obtain ⟨e3, e4⟩ := M.opt_ok e2
  obtain ⟨e5, e6⟩ := M.pure_ok h2
  subst e4
  cases q : own? ρ i with
  | none => rw [q] at e3; cases e3
  | some a =>
    rw [q] at e3
    exact ⟨d, a, b, by rw [e6]; exact e1, own_some q, e3, e5.symm⟩
/-- self.f = e, self one's own -/
def uFld (c : Nat) (f : Str) (d : D) : D → Option D
  | .obj c' ks vs => if c' = c ∧ ks.length < 1000 ∧ ks.length = vs.length then some (.obj c' (putKs f ks) (putVs f d ks vs)) else none
  | _ => none
theorem S_fld {i c : Nat} {o : Expr} {f : Str} {fx : EX} {value : Expr} {pos pos' : Pos} (cl : Cls X.K (W.cl c)) (na : NoAttr X.K (W.cl c) f) (ho : PE X o (tVar i)) (hv : PD X W value fx) (hs : swapsWith value (some (.Attribute o f pos')) pos.line X.env = pure false := by rfl) : PDS X W (.Assign [.Attribute o f pos'] value pos) (sUp i (uFld c f) fx) := imp_S (ps_fld ho hv hs) fun E σ H ⟨fr, F, ρ, n, r, n', R, e, k⟩ => by
  rcases r with z | o
  · refine R.dE e (KS.x k) fun _ _ _ _ _ _ h _ _ _ => ?_
    rcases M.bind_err h with h | ⟨_, _, _, h⟩
    · exact (M.opt_err h).elim
    · exact (M.pure_err h).elim
  obtain ⟨d, a, b, e1, hi, e3, rfl⟩ := sUp_ok e
  refine ⟨fr, F, ρ, n, .ok d, n', R, e1, fun F1 H1 v R1 s1 d1 => ?_⟩
  unfold uFld at e3
  split at e3
  · split at e3
    · rename_i c' ks vs q
      obtain ⟨q1, q2, q3⟩ := q
      subst q1
      cases e3
      obtain ⟨ad, s⟩ := R1.slots
      obtain ⟨a1, a2, a3, a4, ⟨dx, us, l, a5, a6⟩, a7⟩ := s.own i _ hi
      refine ⟨_, a1, ad i, _, dx, _, rfl, a5, cl, na, ?_, ?_⟩
      · rw [List.length_zip, l, Nat.min_self]
        rw [← l]; exact q2
      · have m' : MDen X.K W fr.dr F1 (upd H1 (ad i) (.ins (W.cl c') dx (putF f v (ks.zip us)))) (ad i) (.obj c' (putKs f ks) (putVs f d ks vs)) :=
          ⟨dx, _, putKs_length f v l, by rw [upd_same, putF_zip f v l], a6.putVs f d1 l⟩
        exact k F1 _ _ (R1.change s hi m' rfl) s1
    · cases e3
  · cases e3
/-- x = [] -/
def sOwn (i : Nat) (d : D) : SX := fun ρ => M.pure (.nx (ρ.set i (.own d)))
theorem S_dic_ {i : Nat} {y : Str} {px p2 pos : Pos} (hN : X.N.Nodup) (hi : X.N[i]? = some y) (hx : Loc X.env.scope y) (hs : swapsWith (.Dict [] [] p2) (some (.Name y px)) pos.line X.env = pure false := by rfl) (hf : X.fn y = true ∨ X.env.scope.names.lookup y = some .local := by first | exact .inl rfl | exact .inr rfl | assumption) : PDS X W (.Assign [.Name y px] (.Dict [] [] p2) pos) (sOwn i (.dic [] [])) := imp_S (ps_set hN hi hx pe_dnewK hs hf) fun E σ H ⟨fr, F, ρ, n, r, n', R, e, k⟩ => by
  rcases r with z | o
  · exact (M.pure_err e).elim
  obtain ⟨b1, b2⟩ := M.pure_ok e
  subst b1 b2
  exact fun p hp => k F _ _ (R.setOwn hp rfl ⟨[], rfl, upd_same, .nil⟩) (Sub.refl _)
/-- from here on it is not changed any more -/
def frzE (i : Nat) (ρ : Env) : Option Env := (own? ρ i).bind fun d => if isO d then none else some (ρ.set i (.val d))
def sFrz (i : Nat) : SX := fun ρ => M.bind (M.opt (frzE i ρ)) fun ρ' => M.pure (.nx ρ')
/-- from here on something is locked, or nothing -/
def tLkS (t : TS) : TS := fun E σ H => t E σ H ∨ ∃ d u, H d = some u ∧ Mut (some u) ∧ ∀ od, t E σ (upd H d (.frz od u))
theorem pss_lk {st : List Stmt} {t : TS} (h : PSs X st t) : PSs X st (tLkS t) := ⟨fun pins s σ H E I q => by
  rcases q with q | ⟨d, u, hd, mu, q⟩
  · exact h.run pins s σ H E I q
  · obtain ⟨od, I1⟩ := I.lock hd mu
    exact h.run pins s σ _ E I1 (q od)⟩
/-- behind it something is locked -/
def tPostE (t : TE) : TE := fun σ H Q => t σ H fun v H1 => ∃ d u, H1 d = some u ∧ Mut (some u) ∧ ∀ od, Q v (upd H1 d (.frz od u))
theorem pe_post {e : Expr} {t : TE} (h : PE X e t) : PE X e (tPostE t) := ⟨fun pins s σ H Q I q => thn (h.run pins s σ H _ I q) fun v s1 ⟨x, H1, I1, r, d, u, hd, mu, q1⟩ => by
  obtain ⟨od, I2⟩ := I1.lock hd mu
  exact ⟨x, _, I2, r, q1 od⟩⟩
def tPostS (t : TS) : TS := fun E σ H => t { E with nx := fun σ' H' => ∃ d u, H' d = some u ∧ Mut (some u) ∧ ∀ od, E.nx σ' (upd H' d (.frz od u)) } σ H
theorem ps_post {st : Stmt} {t : TS} (h : PS X st t) : PS X st (tPostS t) := ⟨fun pins s σ H E I q => thn (h.run pins s σ H _ I q) fun f s1 q => by
  cases f with
  | next =>
    obtain ⟨σ', H', I1, d, u, hd, mu, q1⟩ := q
    obtain ⟨od, I2⟩ := I1.lock hd mu
    exact ⟨σ', _, I2, q1 od⟩
  | brk => exact q
  | cont => exact q
  | ret v => exact q⟩
theorem S_frz {i : Nat} {st : List Stmt} {g : SX} (h : PDSs X W st g) : PDSs X W st (sSeq (sFrz i) g) := imp_Ss (pss_lk h) fun E σ H ⟨fr, F, ρ, n, r, n', R, e, k⟩ => by
  rcases M.bind_any e with ⟨z, e1, rfl⟩ | ⟨o1, n1, e1, h1⟩
  · rcases M.bind_err e1 with h | ⟨_, _, _, h⟩
    · exact (M.opt_err h).elim
    · exact (M.pure_err h).elim
  obtain ⟨ρ1, n2, e2, h2⟩ := M.bind_ok e1
  obtain ⟨e3, e4⟩ := M.opt_ok e2
  obtain ⟨e5, e6⟩ := M.pure_ok h2
  subst e5 e4
  subst e6
  unfold frzE at e3
  cases q : own? ρ i with
  | none => rw [q] at e3; cases e3
  | some d =>
    rw [q] at e3
    have hi := own_some q
    have e3 : (if isO d then none else some (ρ.set i (.val d))) = some ρ1 := e3
    split at e3
    · cases e3
    · rename_i hd
      cases e3
      obtain ⟨ad, s⟩ := R.slots
      have hx : fr.H0 (ad i) = none := by
        obtain ⟨a1, a2, a3, a4, a5, a6⟩ := s.own i _ hi
        rcases a6 with a6 | a6
        · exact absurd a6.1 hd
        · exact a6.2
      cases nd : dctD d with
      | false =>
        obtain ⟨F', s', R'⟩ := R.freeze s hi hx nd
        exact .inl ⟨fr, F', _, _, r, n', R', h1, resS_mono s' k⟩
      | true =>
        obtain ⟨o, ho, mu, q⟩ := R.freezeD s hi hx nd
        exact .inr ⟨_, o, ho, mu, fun od => ⟨fr, _, _, _, r, n', (q od).2, h1, resS_mono (q od).1 k⟩⟩
end
end DL
end

section
set_option Elab.async false
set_option linter.all false
set_option autoImplicit false
set_option maxRecDepth 100000
set_option maxHeartbeats 1000000
namespace DL
open PySem PySem.Spec L2
open PyProof.Rows (envOfC)
section
variable {X : Cx} {W : Wd} {x : Str} {p pos : Pos} {e : Expr} {es : List Expr}

/-! ### built-ins -/
def dBls : List D → Option (List Bool)
  | [] => some []
  | .bl i :: r => match dBls r with | some ns => some (i :: ns) | none => none
  | _ => none
theorem bls_of {K : PySem.W.Frag} {dr : Option Addr} {F : Hp} : ∀ {vs : List V} {ds : List D} {ns : List Bool}, Dens K W dr F vs ds → dBls ds = some ns → vs = ns.map V.bl
  | _, _, _, .nil, e => by unfold dBls at e; cases e; rfl
  | _, _, _, .cons h r, e => by
    unfold dBls at e
    split at e
    · rename_i q; cases q
    · rename_i q
      split at e
      · cases q; cases e; cases h
        rw [bls_of r ‹_›]; rfl
      · cases e
    · cases e
def dAny : List D → Option D
  | [.lst ds] => match dBls ds with | some ns => some (.bl (ns.any id)) | none => none
  | _ => none
def dAll : List D → Option D
  | [.lst ds] => match dBls ds with | some ns => some (.bl (ns.all id)) | none => none
  | _ => none
theorem q_any {K : PySem.W.Frag} : CallD K W (rAny K) dAny := by
  intro fr F H σ ρ n xs d vs Q R dx h k
  unfold dAny at h
  split at h
  · split at h
    · cases h
      cases dx with
      | cons h1 h2 =>
        cases h2
        cases h1 with
        | lst h3 h4 =>
          have := bls_of h4 ‹_›
          subst this
          exact ⟨_, _, rfl, SqL.of (R.core.sub _ _ h3), k F H _ R (Sub.refl _) (.bl _)⟩
    · cases h
  · cases h
theorem q_all {K : PySem.W.Frag} : CallD K W (rAll K) dAll := by
  intro fr F H σ ρ n xs d vs Q R dx h k
  unfold dAll at h
  split at h
  · split at h
    · cases h
      cases dx with
      | cons h1 h2 =>
        cases h2
        cases h1 with
        | lst h3 h4 =>
          have := bls_of h4 ‹_›
          subst this
          exact ⟨_, _, rfl, SqL.of (R.core.sub _ _ h3), k F H _ R (Sub.refl _) (.bl _)⟩
    · cases h
  · cases h
def dAbs : List D → Option D
  | [.int i] => some (.int (if i < 0 then -i else i))
  | _ => none
theorem q_abs {K : PySem.W.Frag} : CallD K W (fun xs H Q => ∃ i, xs = [.int i] ∧ Q (.int (if i < 0 then -i else i)) H) dAbs := by
  intro fr F H σ ρ n xs d vs Q R dx h k
  unfold dAbs at h
  split at h
  · cases h
    cases dx with
    | cons h1 h2 => cases h2; cases h1; exact ⟨_, rfl, k F H _ R (Sub.refl _) (.int _)⟩
  · cases h
def dMin2 : List D → Option D
  | [.int i, .int j] => some (.int (if j < i then j else i))
  | _ => none
def dMax2 : List D → Option D
  | [.int i, .int j] => some (.int (if j > i then j else i))
  | _ => none
theorem q_min2 {K : PySem.W.Frag} : CallD K W (fun xs H Q => ∃ i j, xs = [.int i, .int j] ∧ Q (.int (if j < i then j else i)) H) dMin2 := by
  intro fr F H σ ρ n xs d vs Q R dx h k
  unfold dMin2 at h
  split at h
  · cases h
    cases dx with
    | cons h1 h2 => cases h2 with
      | cons h2 h3 => cases h3; cases h1; cases h2; exact ⟨_, _, rfl, k F H _ R (Sub.refl _) (.int _)⟩
  · cases h
theorem q_max2 {K : PySem.W.Frag} : CallD K W (fun xs H Q => ∃ i j, xs = [.int i, .int j] ∧ Q (.int (if j > i then j else i)) H) dMax2 := by
  intro fr F H σ ρ n xs d vs Q R dx h k
  unfold dMax2 at h
  split at h
  · cases h
    cases dx with
    | cons h1 h2 => cases h2 with
      | cons h2 h3 => cases h3; cases h1; cases h2; exact ⟨_, _, rfl, k F H _ R (Sub.refl _) (.int _)⟩
  · cases h
def dInt : List D → Option D
  | [.int i] => some (.int i)
  | [.bl b] => some (.int (if b then 1 else 0))
  | _ => none
theorem q_int {K : PySem.W.Frag} : CallD K W (fun xs H Q => (∃ i, xs = [.int i] ∧ Q (.int i) H) ∨ ∃ k, xs = [.bl k] ∧ Q (.int (if k then 1 else 0)) H) dInt := by
  intro fr F H σ ρ n xs d vs Q R dx h k
  unfold dInt at h
  split at h
  · cases h
    cases dx with
    | cons h1 h2 => cases h2; cases h1; exact .inl ⟨_, rfl, k F H _ R (Sub.refl _) (.int _)⟩
  · cases h
    cases dx with
    | cons h1 h2 => cases h2; cases h1; exact .inr ⟨_, rfl, k F H _ R (Sub.refl _) (.int _)⟩
  · cases h
def dLstOf : List D → Option D
  | [.lst ds] => some (.lst ds)
  | [.tup ds] => some (.lst ds)
  | _ => none
theorem q_lstOf {K : PySem.W.Frag} : CallD K W (fun xs H Q => ∃ p ys, xs = [.ref p] ∧ (SqL K H p ys ∨ SqT K H p ys) ∧ ∀ l, H l = none → Q (.ref l) (upd H l (.lst ys))) dLstOf := by
  intro fr F H σ ρ n xs d vs Q R dx h k
  unfold dLstOf at h
  split at h
  · cases h
    cases dx with
    | cons h1 h2 =>
      cases h2
      cases h1 with
      | lst h3 h4 => exact ⟨_, _, rfl, .inl (SqL.of (R.core.sub _ _ h3)), put_lst R h4 k⟩
  · cases h
    cases dx with
    | cons h1 h2 =>
      cases h2
      cases h1 with
      | tup h3 h4 => exact ⟨_, _, rfl, .inr (R.core.sub.sqT h3), put_lst R h4 k⟩
  · cases h

/-! ### x op= e -/
/-! ### the draws -/
/-- the law's script, by its place in the draw -/
def eDrw0 (fx : EX) : EX := fun ρ => M.bind (fx ρ) fun d => match d with
  | .drw => M.pure .scr
  | _ => M.opt none
def eDrw1 (fx : EX) : EX := fun ρ => M.bind (fx ρ) fun d => match d with
  | .drw => fun n => some (.ok (.int n), n)
  | _ => M.opt none
theorem d_drw0 {a : Expr} {fa : EX} {p2 pos : Pos} {jj : Nat} (ha : PD X W a fa) : PD X W (.Subscript a (.Constant (.int 0) jj p2) pos) (eDrw0 fa) := imp_E (pe_ix ix_list ha pe_int (fun _ _ => rfl)) fun σ H Q ⟨fr, F, ρ, n, r, n', R, e, k⟩ => by
  rcases r with z | d
  · refine R.dE e k fun _ _ _ _ _ _ h _ _ _ => ?_
    split at h
    · exact (M.pure_err h).elim
    · exact (M.opt_err h).elim
  obtain ⟨x, n1, e1, h1⟩ := M.bind_ok e
  refine ⟨fr, F, ρ, n, .ok x, n1, R, e1, fun F1 H1 v R1 s1 d1 => ?_⟩
  split at h1
  · obtain ⟨b1, b2⟩ := M.pure_ok h1
    subst b1 b2
    cases d1 with
    | drw q =>
      obtain ⟨q1, q2, q3⟩ := R1.core.draw _ q
      exact ⟨_, _, 0, .ref fr.sa, rfl, rfl, SqL.of q2, rfl, k F1 H1 _ R1 s1 (.scr q3)⟩
  · cases (M.opt_ok h1).1
theorem d_drw1 {a : Expr} {fa : EX} {p2 pos : Pos} {jj : Nat} (ha : PD X W a fa) : PD X W (.Subscript a (.Constant (.int 1) jj p2) pos) (eDrw1 fa) := imp_E (pe_ix ix_list ha pe_int (fun _ _ => rfl)) fun σ H Q ⟨fr, F, ρ, n, r, n', R, e, k⟩ => by
  rcases r with z | d
  · refine R.dE e k fun _ _ _ _ _ _ h _ _ _ => ?_
    split at h
    · cases h
    · exact (M.opt_err h).elim
  obtain ⟨x, n1, e1, h1⟩ := M.bind_ok e
  refine ⟨fr, F, ρ, n, .ok x, n1, R, e1, fun F1 H1 v R1 s1 d1 => ?_⟩
  split at h1
  · cases h1
    cases d1 with
    | drw q =>
      obtain ⟨q1, q2, q3⟩ := R1.core.draw _ q
      exact ⟨_, _, 1, .int _, rfl, rfl, SqL.of q2, rfl, k F1 H1 _ R1 s1 (.int _)⟩
  · cases (M.opt_ok h1).1
def isDrw : D → Bool | .drw => true | _ => false
/-- draw[1] += 1 -/
def sDrw (fx : EX) : SX := fun ρ => M.bind (fx ρ) fun d => if isDrw d then fun n => some (.ok (.nx ρ), n + 1) else M.opt none
def rGetL (K : PySem.W.Frag) : V → V → Hp → VK → Prop := fun x y H Q => ∃ p xs j v, x = .ref p ∧ y = .int ((j : Nat) : Int) ∧ SqL K H p xs ∧ xs[j]? = some v ∧ Q v H
theorem get_list : PGet X (rGetL X.K) := by
  intro pins s σ H x y v u Q I rx ry h
  obtain ⟨p, xs, j, z, rfl, rfl, hq, he, q⟩ := h
  cases rx
  obtain ⟨t, rfl⟩ := ry
  obtain ⟨its, r, pl, hz⟩ := I.list hq
  obtain ⟨w, ew, rw'⟩ := r.get he
  have hl := r.length
  have hn := line63
  have hj : j < its.length := (List.getElem?_eq_some_iff.mp ew).1
  exact wpAny_getItem_list pl.isList (by omega) (by omega) (by simpa using ew) ⟨z, H, I, rw', q⟩
theorem Rel.drawn {K : PySem.W.Frag} {fr : Fr} {F H : Hp} {σ : St} {ρ : Env} {n m : Int} {a : Addr} (r : Rel K W fr F H σ ρ n) (q : fr.dr = some a) : Rel K W fr F (upd H a (.lst [.ref fr.sa, .int m])) σ ρ m := by
  have c := r.core
  obtain ⟨ad, s⟩ := r.slots
  obtain ⟨q1, q2, q3⟩ := c.draw _ q
  refine ⟨⟨fun b u z => ?_, fun b u z z2 z3 => ?_, c.f0, c.new, fun b u z => ?_, fun b z => ?_, c.ntF, ?_⟩, ad, s.len, s.val, fun i d z => ?_, s.inj, fun i o' f z => ?_⟩
  rotate_left 6
  · obtain ⟨k1, x, b, k2, k3, k4, k5, k6⟩ := s.mob i o' f z
    have m := k3
    obtain ⟨m1, m2, m3, m4, m5, _⟩ := m
    exact ⟨k1, x, b, k2, k3.keep (Sub.refl _) (fun u z _ => by rw [upd_ne (fun e => m3 (by rw [e]; exact q))]; exact z) (fun u z _ => by rw [upd_ne (fun e => m4 (by rw [e]; exact q))]; exact z) m1 m2, k4, k5, k6⟩
  · rw [upd_ne (ne_of_none z q1)]; exact c.sub _ _ z
  · rw [upd_ne (fun e => z2 (by rw [e]; exact q))]; exact c.base b u z z2 z3
  · by_cases e : b = a
    · rw [e]; exact ⟨_, upd_same, fun _ z => by cases z⟩
    · obtain ⟨o', z', nt⟩ := c.there b u z
      exact ⟨o', by rw [upd_ne e]; exact z', nt⟩
  · rw [q] at z
    cases z
    exact ⟨q1, upd_same, q3⟩
  · refine tabs_keep c.tabs fun b u z sd => ?_
    have ne : b ≠ a := fun e => by subst e; exact (sd_of q2) _ z sd
    rw [upd_ne ne]; exact z
  · obtain ⟨z1, z2, z3, z4, z5, z6⟩ := s.own i d z
    exact ⟨z1, z2, z3, z4, z5.mono (Sub.refl _) (fun u e => by rw [upd_ne (fun e' => z3 (by rw [e']; exact q))]; exact e), z6⟩
theorem S_drw {a : Expr} {fa : EX} {p2 p3 p4 pos : Pos} {jj kk : Nat} (ha : PD X W a fa) : PDS X W (.AugAssign (.Subscript a (.Constant (.int 1) jj p2) p4) .Add (.Constant (.int 1) kk p3) pos) (sDrw fa) := imp_S (ps_augS ha pe_int get_list pe_int ip_add set_list) fun E σ H ⟨fr, F, ρ, n, r, n', R, e, k⟩ => by
  rcases r with z | o
  · refine R.dE e (KS.x k) fun _ _ _ _ _ _ h _ _ _ => ?_
    split at h
    · cases h
    · exact (M.opt_err h).elim
  obtain ⟨x, n1, e1, h1⟩ := M.bind_ok e
  refine ⟨fr, F, ρ, n, .ok x, n1, R, e1, fun F1 H1 v R1 s1 d1 => ?_⟩
  split at h1
  · rename_i hx
    cases h1
    unfold isDrw at hx
    split at hx
    · cases d1 with
      | drw q =>
        obtain ⟨q1, q2, q3⟩ := R1.core.draw _ q
        exact ⟨_, _, 1, _, rfl, rfl, SqL.of q2, rfl, _, _, rfl, rfl, _, _, _, 1, rfl, rfl, q2, rfl, k F1 _ σ (R1.drawn q) s1⟩
    · cases hx
  · cases (M.opt_ok h1).1
/-- the script: is it empty, its length, its items -/
def dScrNil (W : Wd) : D → D → Option D
  | .scr, .lst [] => some (.bl W.ns.isEmpty)
  | _, _ => none
def intsPy (ns : List Int) : List PyData := ns.map PyData.int
theorem dpAll_ints {K : PySem.W.Frag} {H : Hp} : ∀ ns : List Int, DpAll K H (ns.map V.int) (intsPy ns)
  | [] => .nil
  | i :: r => .cons (.int i) (dpAll_ints r)
theorem canLay_ints : ∀ ns : List Int, PyData.canLayAll0 (intsPy ns) = true
  | [] => by unfold intsPy; rfl
  | i :: r => by
    have := canLay_ints r
    unfold intsPy at this ⊢
    rw [List.map_cons]
    unfold PyData.canLayAll0
    rw [this]; unfold PyData.canLay0; rfl
theorem depth_ints : ∀ ns : List Int, PyData.depthAll (intsPy ns) = 0
  | [] => by unfold intsPy; rfl
  | i :: r => by
    have := depth_ints r
    unfold intsPy at this ⊢
    rw [List.map_cons]
    unfold PyData.depthAll
    rw [this]; unfold PyData.depth; rfl
theorem shaped_ints (ns : List Int) : SeqAt.shaped (.list (intsPy ns)) = true := by
  unfold SeqAt.shaped
  unfold PyData.canLay0 PyData.depth
  rw [canLay_ints, depth_ints]; rfl
def dLenS (W : Wd) : List D → Option D
  | [.scr] => some (.int W.ns.length)
  | _ => none
theorem q_lenS {K : PySem.W.Frag} : CallD K W (fun xs H Q => ∃ x n, xs = [x] ∧ LenV K x H n ∧ Q (.int n) H) (dLenS W) := by
  intro fr F H σ ρ n xs d vs Q R dx h k
  unfold dLenS at h
  split at h
  · cases h
    cases dx with
    | cons h1 h2 =>
      cases h2
      cases h1 with
      | scr h3 => exact ⟨_, W.ns.length, rfl, .inl ⟨_, R.core.sub.sqL h3, by simp⟩, k F H _ R (Sub.refl _) (.int _)⟩
  · cases h
def dIxS (W : Wd) : D → D → Option D
  | .scr, .int i => (atI W.ns i).map D.int
  | _, _ => none
theorem atI_map {α β : Type} (f : α → β) (xs : List α) (i : Int) : atI (xs.map f) i = (atI xs i).map f := by
  unfold atI
  rw [List.length_map]
  cases ixN xs.length i with
  | none => rfl
  | some j => simp
theorem d_ixS {a b : Expr} {fa fb : EX} {pos : Pos} (ha : PD X W a fa) (hb : PD X W b fb) (hs : PlainIx b := by exact fun _ _ => rfl) : PD X W (.Subscript a b pos) (e2 (dIxS W) fa fb) := imp_E (pe_ix ix_list ha hb hs) fun σ H Q h => d_tOp (by
  intro fr F H σ ρ n x y d v u Q R dx dy h k
  unfold dIxS at h
  split at h
  · cases dx with
    | scr h1 =>
      cases dy
      rename_i i _
      cases e : atI W.ns i with
      | none => rw [e] at h; cases h
      | some z =>
        rw [e] at h
        cases h
        exact ⟨_, _, _, .int z, rfl, rfl, R.core.sub.sqL h1, by rw [atI_map, e]; rfl, k F H _ R (Sub.refl _) (.int _)⟩
  · cases h) h

end

/-! ### the law -/
def spLaw (K : PySem.W.Frag) (T : List (Addr × Str)) : Sp := fun vs H Q _ => ∃ (a : Addr) (ns : List Int), vs = [.ref a] ∧ SqL K H a (ns.map V.int) ∧ ns.length ≤ 63 ∧ LamX.Tabs T H ∧ ∀ H', Q (.bl true) H'
/-- the law's first statement is «draw = [script, 0]» -/
theorem okLaw {P : Program} {w : World} {K : PySem.W.Frag} {mg : Str → Option Value} {base : Heap} {x qual : Str} {st : Stmt} {f : Addr} {fd : FuncData} {N : List Str} {k : Nat} {y z : Str} {px py pl p0 pa : Pos} {jj : Nat} {rest : List Stmt} {cl : Nat → Addr} {T : List (Addr × Str)} (g : Wd → SX)
    (F : Fun K x qual st f fd) (S : FnScope N [y] (defScope st)) (hbody : defBody st = .Assign [.Name z px] (.List [.Name y py, .Constant (.int 0) jj p0] pl) pa :: rest)
    (first : ∀ (cdv : Value) (A : Around) (outer : List PySem.Env) (s : Shared) (H : Hp) (E : XK), PS (cxOf (L2.CX P w) P w K mg base N qual (defScope st) f cdv A outer s H E) (.Assign [.Name z px] (.List [.Name y py, .Constant (.int 0) jj p0] pl) pa) (tAsg (tLst (tCons (tVar 0) (tCons (tC (.int 0)) tNil))) (gName 1)))
    (body : ∀ (W : Wd), W.cl = cl → W.tb = T → W.md = false → ∀ (cdv : Value), Cdv fd cdv → ∀ (A : Around) (outer : List PySem.Env) (s : Shared) (H : Hp) (E : XK), Room k (A.deeper (envOfC qual (defScope st) s.heap.objs.size f cdv)) → PDSs (cxOf (CXm W.md P w) P w K mg base N qual (defScope st) f cdv A outer s H E) W rest (g W))
    (good : ∀ W : Wd, W.ns.length ≤ 63 → W.cl = cl → ∃ n', g W (.val .scr :: .val .drw :: List.replicate (N.length - 2) Sl.no) 0 = some (.ok (.ret (.bl true)), n')) (hN : 2 ≤ N.length) :
    FnOk P w K mg base (L2.CX P w) (k + 1) f fd [y] (spLaw K T) := by
  refine fn_okXc (b := false) F S (fun vs H Q E h => ?_) fun cdv hcd A outer s H vs Q E hr h => ?_
  · obtain ⟨a, ns, rfl, _⟩ := h
    rfl
  · obtain ⟨a, ns, rfl, hS, hl, hT, hk⟩ := h
    rw [hbody]
    refine ⟨_, pss_cons (first cdv A outer s H E) (body ⟨cl, ns, T, false⟩ rfl rfl rfl cdv hcd A outer s H E hr), ?_⟩
    refine ⟨_, rfl, (by show 2 ≤ sizeLine; decide), fun p hp => ?_⟩
    obtain ⟨n', e⟩ := good ⟨cl, ns, T, false⟩ hl rfl
    have hne : p ≠ a ∨ ∃ o, K.lookup a = some o := by
      rcases hS with (h | ⟨o, h⟩) | ⟨o, _, _, h, _⟩
      · exact .inl fun e => by rw [e, h] at hp; cases hp
      · exact .inl fun e => by rw [e, h] at hp; cases hp
      · exact .inr ⟨o, h⟩
    let F0 : Hp := fun b => if b = p then none else if b = a then mask H a else none
    have fa : ∀ u, F0 a = some u → H a = some u := fun u q => by
      by_cases e : a = p
      · simp [F0, e] at q
      · have q : mask H a = some u := by simpa [F0, e] using q
        exact (of_mask q).1
    have hF : SqL K F0 a (ns.map V.int) := by
      rcases hS with (h | ⟨o, h⟩) | h
      · have : a ≠ p := fun e => by rw [← e, h] at hp; cases hp
        exact .inl (.inl (by simp only [F0, if_neg this, if_true]; exact mask_of h))
      · have : a ≠ p := fun e => by rw [← e, h] at hp; cases hp
        exact .inl (.inr ⟨o, by simp only [F0, if_neg this, if_true]; exact mask_of h⟩)
      · exact .inr h
    have hsub : Sub F0 (upd H p (.lst [.ref a, .int 0])) := fun b u q => by
      by_cases e : b = p
      · simp [F0, e] at q
      · by_cases e2 : b = a
        · subst e2
          rw [upd_ne e]; exact fa u q
        · simp [F0, e, e2] at q
    have nt0 : ∀ b u, F0 b = some u → NT u := fun b u q => by
      by_cases e : b = p
      · simp [F0, e] at q
      · by_cases e2 : b = a
        · subst e2
          have q : mask H b = some u := by simpa [F0, e] using q
          exact (of_mask q).2
        · simp [F0, e, e2] at q
    have c : Core K ⟨cl, ns, T, false⟩ ⟨some p, a, mask (upd H p (.lst [.ref a, .int 0])), F0, fun _ => False⟩ F0 (upd H p (.lst [.ref a, .int 0])) 0 :=
      ⟨hsub, fun _ _ h _ _ => (of_mask h).1, Sub.refl _, fun _ _ _ h => h, fun _ o h => ⟨o, of_mask h⟩, fun b q => by
        cases q
        exact ⟨by simp [F0], upd_same, hF⟩, nt0, tabs_keep hT fun b u q _ => by rw [upd_ne (ne_of_none q hp)]; exact q⟩
    refine ⟨_, F0, _, 0, _, n', ⟨c, fun _ => 0, ?_, fun i d q => ?_, fun i d q => ?_, fun i j d d' q _ => ?_, fun i o f q => ?_⟩, e, fun F' H' v c' s' d' => ?_⟩
    rotate_left 4
    · cases i with
      | zero => cases q
      | succ i =>
        cases i with
        | zero => cases q
        | succ i =>
          have := List.mem_of_getElem? (show (List.replicate (N.length - 2) Sl.no)[i]? = some (Sl.mob o f) from q)
          rw [List.mem_replicate] at this
          cases this.2
    rotate_left 1
    · unfold L2.start
      simp
      omega
    · cases i with
      | zero =>
        cases q
        refine ⟨.ref a, ?_, .scr hF⟩
        show (List.set _ 1 _)[0]? = _
        rw [List.getElem?_set_ne (by decide)]; rfl
      | succ i =>
        cases i with
        | zero =>
          cases q
          refine ⟨.ref p, ?_, .drw rfl⟩
          rw [get_set_self (by unfold L2.start; simp; omega)]
        | succ i =>
          have := List.mem_of_getElem? (show (List.replicate (N.length - 2) Sl.no)[i]? = some (Sl.val d) from q)
          rw [List.mem_replicate] at this
          cases this.2
    · cases i with
      | zero => cases q
      | succ i =>
        cases i with
        | zero => cases q
        | succ i =>
          have := List.mem_of_getElem? (show (List.replicate (N.length - 2) Sl.no)[i]? = some (Sl.own d) from q)
          rw [List.mem_replicate] at this
          cases this.2
    · cases i with
      | zero => cases q
      | succ i =>
        cases i with
        | zero => cases q
        | succ i =>
          have := List.mem_of_getElem? (show (List.replicate (N.length - 2) Sl.no)[i]? = some (Sl.own d) from q)
          rw [List.mem_replicate] at this
          cases this.2
    · cases d'
      exact hk H'
theorem law_walk {l : PySem.W.OpenLaw} {q : Program} {loose : List Str} {XP : (Str → Option Value) → Heap → Prop} {YP : World → Heap → Prop} {d : DefRec} {K : Params → PySem.W.Frag} {k : Nat} {x : Str} (hn : l.most = some 63) (hdf : d.params.defaults = []) (hr : Room k callerA)
    (hY : ∀ (w : World) (h : Heap), YP w h → (K w.params).In h)
    (F : ∀ (w : World) (mg : Str → Option Value) (fa : Addr) (h : Heap), (K w.params).In h → h.Ns mainGlobals mg → mg d.name = some (.ref fa) →
      ∃ fd : FuncData, (∀ (s : Shared) (u : Value), BindsTo s fd ⟨[u], []⟩ [(x, u)]) ∧ ∀ base : Heap, (K w.params).In base → base.Ns mainGlobals mg → FnOk l.prog w (K w.params) mg base (L2.CX l.prog w) k fa fd [x] (spLaw (K w.params) [])) :
    PySem.W.WalkO q loose XP YP l.row.toRowW d [] (fun f vs => PySem.call f vs) :=
  L2.walk_of (n := 63) (k := k) (x := x) (CX := fun w => L2.CX l.prog w) (sp := fun w => spLaw (K w.params) []) hn (by decide) hdf hr hY F (fun _ _ a ns hl _ hS => ⟨a, ns, rfl, hS, hl, (fun _ hp => absurd hp List.not_mem_nil), fun _ => rfl⟩) fun _ _ _ _ _ ⟨_, _, _, _, _, _, _, _, _, _, _, _, z⟩ => z
end DL
end

section
set_option Elab.async false
set_option linter.all false
set_option autoImplicit false
set_option maxRecDepth 100000
set_option maxHeartbeats 1000000
namespace DL
open PySem PySem.Spec L2
/-! ### callees, bundled -/
def Cal (b : Bool) (P : Program) (w : World) (K : PySem.W.Frag) (mg : Str → Option Value) (base : Heap) (x : Str) (k : Nat) (sp : Sp) : Prop :=
  ∃ f fd ps, FnOk P w K mg base (CXm b P w) k f fd ps sp ∧ mg x = some (.ref f) ∧ PySem.W.keepIn K (.ref f) = true ∧ Binds K fd ps []
def CalM (b : Bool) (P : Program) (w : World) (K : PySem.W.Frag) (mg : Str → Option Value) (base : Heap) (C : Addr) (m : Str) (k : Nat) (sp : Sp) : Prop :=
  ∃ f fd ps, FnOk P w K mg base (CXm b P w) k f fd ps sp ∧ Meth K C m f ∧ Binds K fd ps []
def CalI (b : Bool) (P : Program) (w : World) (K : PySem.W.Frag) (mg : Str → Option Value) (base : Heap) (C : Addr) (x : Str) (k : Nat) (sp : Sp) : Prop :=
  ∃ f fd ps, FnOk P w K mg base (CXm b P w) k f fd ps sp ∧ Mk K C f ∧ mg x = some (.ref C) ∧ Binds K fd ps []
section
variable {X : Cx} {W : Wd} {k : Nat} {x m : Str} {p pos apos : Pos} {e o : Expr} {es : List Expr} {fx : FX} {fo : EX} {fs : EXs} {mm c : Nat} {pl : Sem Bool}
theorem c_call (F : Cal W.md X.prog X.w X.K X.mg X.base x k (spD X.K W fx mm)) (hr : Room k X.A) (hg : Gl X x)
    (ha : PDs X W (e :: es) fs) (hl : ∀ ρ n ds n', fs ρ n = some (.ok ds, n') → ds.length = mm) (hdb : (x == ("__debug__" : Str)) = false := by decide) (he : starEach (e :: es) X.env = (false, eval e X.env) :: starEach es X.env := by rfl) (hpl : (backTo pos (starEach es X.env)).any (·.1) = false := by rfl) :
    PD X W (.Call (.Name x p) (e :: es) [] pos) (eCall fx fs) := by
  obtain ⟨f, fd, ps, h1, h2, h3, h4⟩ := F
  exact d_call h1 hr hg h2 h3 h4 ha hl hdb he hpl
theorem c_meth (F : CalM W.md X.prog X.w X.K X.mg X.base (W.cl c) m k (spD X.K W fx (mm + 1))) (hr : Room k X.A) (cl : Cls X.K (W.cl c)) (ho : PD X W o fo) (ha : PDs X W (e :: es) fs) (hl : ∀ ρ n ds n', fs ρ n = some (.ok ds, n') → ds.length = mm)
    (hst : starEach (e :: es) X.env = (false, eval e X.env) :: starEach es X.env := by rfl) (hpl : (backTo pos (starEach es X.env)).any (·.1) = false := by rfl)
    (ht : eval (.Call (.Attribute o m apos) (e :: es) [] pos) X.env = (do
      let ov ← eval o X.env
      standAt apos.atName
      let (f, first) ← holding [ov] (getMethod ov m pl)
      callWith pos f first (backTo pos (starEach (e :: es) X.env)) (backToKw pos (keywordEach [] X.env))) := by rfl) :
    PD X W (.Call (.Attribute o m apos) (e :: es) [] pos) (eMeth c m fx fo fs) := by
  obtain ⟨f, fd, ps, h1, h2, h4⟩ := F
  exact d_meth ho cl h2 h1 hr h4 ha hl hst hpl ht
theorem c_make (F : CalI W.md X.prog X.w X.K X.mg X.base (W.cl c) x k (spI X.K W fx c mm)) (hr : Room (k + 1) X.A) (hg : Gl X x)
    (ha : PDs X W (e :: es) fs) (hl : ∀ ρ n ds n', fs ρ n = some (.ok ds, n') → ds.length = mm) (hdb : (x == ("__debug__" : Str)) = false := by decide) (he : starEach (e :: es) X.env = (false, eval e X.env) :: starEach es X.env := by rfl) (hpl : (backTo pos (starEach es X.env)).any (·.1) = false := by rfl) :
    PD X W (.Call (.Name x p) (e :: es) [] pos) (eMake c fx fs) := by
  obtain ⟨f, fd, ps, h1, h2, h3, h4⟩ := F
  exact d_make h2 h1 hr hg h3 h4 ha hl hdb he hpl
/-! ### comparisons as tests -/
variable {a b : Expr} {fa fb : EX} {j : Nat} {q : Pos}
theorem q_lt {K : PySem.W.Frag} : Op2 K W (fun x y H Q => (rI0 fun i j => .bl (decide (i < j))) x y H Q ∨ (∃ i j, x = .str i ∧ y = .str j ∧ Q (.bl (decide (i.cps.toList < j.cps.toList))) H)) dLt := by
  intro fr F H σ ρ n x y d v u Q R dx dy h k
  unfold dLt at h
  split at h
  · cases dx; cases dy; cases h
    exact .inl ⟨_, _, rfl, rfl, k F H _ R (Sub.refl _) (.bl _)⟩
  · cases dx; cases dy; cases h
    exact .inr ⟨_, _, rfl, rfl, k F H _ R (Sub.refl _) (.bl _)⟩
  · cases h
theorem q_eq {K : PySem.W.Frag} : Op2 K W (rEqD K) dEq := by
  intro fr F H σ ρ n x y d v u Q R dx dy h k
  unfold dEq at h
  split at h
  · cases h
    obtain ⟨p, q, h1, h2, h3, h4, rfl⟩ := dEqB_ok ‹_›
    exact ⟨p, q, dp_of R.core.sub dx h1, dp_of R.core.sub dy h2, h3, h4, k F H _ R (Sub.refl _) (.bl _)⟩
  · cases h
theorem q_ne {K : PySem.W.Frag} : Op2 K W (rNeD K) dNe := by
  intro fr F H σ ρ n x y d v u Q R dx dy h k
  unfold dNe at h
  split at h
  · cases h
    obtain ⟨p, q, h1, h2, h3, h4, rfl⟩ := dEqB_ok ‹_›
    exact ⟨p, q, dp_of R.core.sub dx h1, dp_of R.core.sub dy h2, h3, h4, k F H _ R (Sub.refl _) (.bl _)⟩
  · cases h
theorem q_scrNil {K : PySem.W.Frag} : Op2 K W (rEqD K) (dScrNil W) := by
  intro fr F H σ ρ n x y d v u Q R dx dy h k
  unfold dScrNil at h
  split at h
  · cases h
    cases dx with
    | scr h1 =>
      cases dy with
      | lst h2 h3 =>
        cases h3
        refine ⟨.list (intsPy W.ns), .list [], .lst (R.core.sub.sqL h1) (dpAll_ints _), .lst (SqL.of (R.core.sub _ _ h2)) .nil, shaped_ints _, by decide, ?_⟩
        have : PyData.eqv (.list (intsPy W.ns)) (.list []) = W.ns.isEmpty := by
          unfold PyData.eqv
          cases e : W.ns with
          | nil => rfl
          | cons i r => rfl
        rw [this]
        exact k F H _ R (Sub.refl _) (.bl _)
  · cases h
theorem q_CI {K : PySem.W.Frag} (p : Int → Int → Bool) : Op2 K W (rI0 fun i j => .bl (p i j)) (dCI p) := q_I0 fun _ _ _ _ _ _ => .bl _
theorem t_lt (ha : PD X W a fa) (hb : PD X W b fb) : PDT X W (.Compare a [.Lt] [b] pos) (tB (e2 dLt fa fb)) := t_cmp (op_lt.or op_lt_str) q_lt ha hb (nomark _)
theorem t_gt (ha : PD X W a fa) (hb : PD X W b fb) : PDT X W (.Compare a [.Gt] [b] pos) (tB (e2 dGt fa fb)) := t_cmp op_gt (q_CI _) ha hb (nomark _)
theorem t_ge (ha : PD X W a fa) (hb : PD X W b fb) : PDT X W (.Compare a [.GtE] [b] pos) (tB (e2 dGe fa fb)) := t_cmp op_ge (q_CI _) ha hb (nomark _)
theorem t_eq (hu : X.A.units + 64 < cLine) (ha : PD X W a fa) (hb : PD X W b fb) : PDT X W (.Compare a [.Eq] [b] pos) (tB (e2 dEq fa fb)) := t_cmp (op_eqD hu) q_eq ha hb (nomark _)
theorem t_ne (hu : X.A.units + 64 < cLine) (ha : PD X W a fa) (hb : PD X W b fb) : PDT X W (.Compare a [.NotEq] [b] pos) (tB (e2 dNe fa fb)) := t_cmp (op_neD hu) q_ne ha hb (nomark _)
theorem t_scrNil (hu : X.A.units + 64 < cLine) (ha : PD X W a fa) (hb : PD X W b fb) : PDT X W (.Compare a [.Eq] [b] pos) (tB (e2 (dScrNil W) fa fb)) := t_cmp (op_eqD hu) q_scrNil ha hb (nomark _)
theorem t_isN (ha : PD X W a fa) : PDT X W (.Compare a [.Is] [.Constant .none j q] pos) (tB (e1 (fun d => some (.bl (isNon d))) fa)) := imp_T (pt_cmp (pc_isN ha) rfl) fun σ H Q ⟨fr, F, ρ, n, r, n', R, e, k⟩ => by
  rcases r with z | b
  · refine R.dE (g := fun x => M.opt (some (D.bl (isNon x)))) ?_ k fun _ _ _ _ _ _ h _ _ _ => (M.opt_err h).elim
    rcases M.bind_err e with h | ⟨_, _, _, h⟩
    · exact h
    · exact (M.opt_err h).elim
  obtain ⟨x, n1, h1, h⟩ := M.bind_ok e
  obtain ⟨y, n2, h3, h4⟩ := M.bind_ok h1
  obtain ⟨h5, h6⟩ := M.opt_ok h4
  obtain ⟨h7, h8⟩ := M.opt_ok h
  subst h6
  cases h5
  cases h7
  subst h8
  exact ⟨fr, F, ρ, n, .ok y, _, R, h3, fun F1 H1 v R1 s1 d1 => ⟨_, rfl, by rw [isNon_of d1]; exact k F1 H1 R1 s1⟩⟩
end
end DL
end

section
set_option Elab.async false
set_option linter.all false
set_option autoImplicit false
set_option maxRecDepth 100000
namespace DL
open PySem PySem.Spec L2
/-! ### isinstance -/
def tyN : D → Option String
  | .non => some "NoneType"
  | .bl _ => some "bool"
  | .int _ => some "int"
  | .str _ => some "str"
  | .tup _ => some "tuple"
  | .lst _ => some "list"
  | .dic _ _ => some "dict"
  | _ => none
theorem ty_of {K : PySem.W.Frag} {W : Wd} {dr : Option Addr} {F H : Hp} (s : Sub F H) {v : V} {d : D} {T : String} (h : Den K W dr F v d) (e : tyN d = some T) : TyX K H v (.type T) := by
  cases h with
  | non => cases e; exact .base .non
  | bl b => cases e; exact .base (.bl b)
  | int b => cases e; exact .base (.int b)
  | str b => cases e; exact .base (.str b)
  | tup h1 h2 =>
    cases e
    rcases s.sqT h1 with h | ⟨o, its, n, hk, hc, _⟩
    · rcases h with h | ⟨o, h⟩
      · exact .base (.tup h)
      · exact .fTuple h
    · exact .kTuple hk hc
  | lst h1 h2 => cases e; exact .base (.lst (s _ _ h1))
  | scr h1 => cases e
  | rng h1 => cases e
  | odd h1 h2 => cases e
  | dic h0 h1 h2 =>
    cases e
    rcases s.rd h1.rd with h | ⟨o, h⟩
    · exact .base (.dK h)
    · exact .fDict h
  | dit h0 h1 h2 => cases e
  | obj => cases e
  | drw => cases e
def dIsi (T : String) (d : D) : Option D := match tyN d with
  | some t => (match kitB t T with | some b => some (.bl b) | none => none)
  | none => none
section
variable {X : Cx} {W : Wd} {x : Str} {p tp pos : Pos} {e : Expr} {f : EX}
theorem d_isi {T : String} {Tn : Str} (hg : Gl X "isinstance") (hm : X.mg "isinstance" = none) (hgT : Gl X Tn) (hmT : X.mg Tn = none) (hvT : bootBuiltins Tn = some (.type T)) (ha : PD X W e f) (hn : Tn ≠ "__name__" := by decide) (hd : (Tn == ("__debug__" : Str)) = false := by decide)
    (he : starEach [e, .Name Tn tp] X.env = (false, eval e X.env) :: starEach [.Name Tn tp] X.env := by rfl) (he2 : starEach [.Name Tn tp] X.env = (false, eval (.Name Tn tp) X.env) :: starEach [] X.env := by rfl) (hpl : (backTo pos (starEach [.Name Tn tp] X.env)).any (·.1) = false := by rfl) :
    PD X W (.Call (.Name "isinstance" p) [e, .Name Tn tp] [] pos) (e1 (dIsi T) f) :=
  imp_E (pe_callB call_isi hg hm rfl (pa_cons ha (pa_cons (pe_bltn (v := .ty T) hgT hmT hvT rfl hn hd) pa_nil he2) he) (by decide) (by decide) he hpl) fun σ H Q ⟨fr, F, ρ, n, r, n', R, ev, k⟩ => by
    rcases r with z | d
    · exact R.dE1 ev k
    obtain ⟨y, n1, h1, h2⟩ := M.bind_ok ev
    obtain ⟨h3, h4⟩ := M.opt_ok h2
    subst h4
    unfold dIsi at h3
    split at h3
    · split at h3
      · cases h3
        exact ⟨fr, F, ρ, n, .ok y, _, R, h1, fun F1 H1 v R1 s1 d1 => ⟨v, .ty T, _, _, _, rfl, .ty T, ty_of R1.core.sub d1 ‹_›, kit_ty ‹_›, k F1 H1 _ R1 s1 (.bl _)⟩⟩
      · cases h3
    · cases h3
end
/-! ### a dict of the module with text keys -/
def flDB : D → Value → Bool
  | .non, .none => true
  | .bl a, .bool b => a == b
  | .int i, .int j _ => i == j
  | .str x, .str y _ => x == y
  | _, _ => false
def allDB : List D → List Value → Bool
  | [], [] => true
  | d :: ds, v :: vs => flDB d v && allDB ds vs
  | _, _ => false
def relDB (K : PySem.W.Frag) (d : D) (u : Value) : Bool := match d, u with
  | .tup ds, .ref a => (match K.lookup a with
    | some ⟨.type c, _, .seq its _, _⟩ => decide (c = "tuple") && (decide (its.size ≤ 1000) && allDB ds its.toList)
    | _ => false)
  | d, u => flDB d u
structure KTab (K : PySem.W.Frag) (w : World) (W : Wd) (a : Addr) (tbl : List (Str × D)) : Prop where
  kd : ∃ es n, KDict K w a es n
  yes : ∀ z x, tbl.lookup z = some x → ∃ u v, PySem.W.nsIn K a z = some (some u) ∧ RelV v u ∧ ∀ dr F, Den K W dr F v x
  no : ∀ z, tbl.lookup z = none → PySem.W.nsIn K a z = some none
section
variable {X : Cx} {W : Wd} {x : Str} {p pos : Pos} {e : Expr} {f : EX} {a : Addr} {tbl : List (Str × D)}
end
end DL
end

section
set_option Elab.async false
set_option linter.all false
set_option autoImplicit false
set_option maxRecDepth 100000
namespace DL
open PySem PySem.Spec L2 PyProof.Rows
section
variable {prog : Program} {w : World} {A : Around} {E : Value → Shared → Prop} {s : Shared}
end
section
variable {X : Cx} {W : Wd}
end
end DL
end

section
set_option Elab.async false
set_option linter.all false
set_option autoImplicit false
set_option maxRecDepth 100000
namespace DL
open PySem PySem.Spec L2 PyProof.Rows
/-! ### reading a dict -/
def keyD : D → Option Key
  | .int i => some (.inl i)
  | .str x => some (.inr x)
  | _ => none
theorem key_of {K : PySem.W.Frag} {W : Wd} {dr : Option Addr} {F : Hp} {v : V} {d : D} {k : Key} (h : Den K W dr F v d) (e : keyD d = some k) : v = kV k := by
  unfold keyD at e
  split at e
  · cases e; cases h; rfl
  · cases e; cases h; rfl
  · cases e
section
variable {κ : Type} [DecidableEq κ]
def valD : List κ → List D → κ → Option D
  | x :: xs, d :: ds, k => if x = k then some d else valD xs ds k
  | _, _, _ => none
theorem val_zip {K : PySem.W.Frag} {W : Wd} {dr : Option Addr} {F : Hp} {k : κ} {d : D} : ∀ {ks : List κ} {us : List V} {ds : List D}, ks.length = us.length → Dens K W dr F us ds → valD ks ds k = some d → ∃ v, valV (ks.zip us) k = some v ∧ Den K W dr F v d
  | [], _, _, _, _, h => by cases h
  | x :: xs, [], _, l, _, h => by cases l
  | x :: xs, u :: us, _, l, .cons h1 h2, h => by
    unfold valD at h
    split at h
    · rename_i q
      cases h
      exact ⟨u, by rw [List.zip_cons_cons]; exact valV_pos q, h1⟩
    · rename_i q
      obtain ⟨v, e1, e2⟩ := val_zip (ks := xs) (by simpa using l) h2 h
      exact ⟨v, by rw [List.zip_cons_cons, valV_neg q]; exact e1, e2⟩
def dkKs (ks : List κ) (k : κ) : List κ := if (ks.any fun x => decide (x = k)) = true then ks else ks ++ [k]
def dkDs {α : Type} (ks : List κ) (ds : List α) (k : κ) (d : α) : List α := if (ks.any fun x => decide (x = k)) = true then List.zipWith (fun x e => if x = k then d else e) ks ds else ds ++ [d]
theorem any_zip {k : κ} : ∀ {ks : List κ} {us : List V}, ks.length = us.length → ((ks.zip us).any fun kv => decide (kv.1 = k)) = ks.any fun x => decide (x = k)
  | [], _, _ => by simp
  | x :: xs, [], l => by cases l
  | x :: xs, u :: us, l => by
    rw [List.zip_cons_cons, List.any_cons, List.any_cons, any_zip (ks := xs) (by simpa using l)]
theorem map_zip {k : κ} {v : V} : ∀ {ks : List κ} {us : List V}, ks.length = us.length → (ks.zip us).map (fun kv => if kv.1 = k then (kv.1, v) else kv) = ks.zip (List.zipWith (fun x e => if x = k then v else e) ks us)
  | [], _, _ => by simp
  | x :: xs, [], l => by cases l
  | x :: xs, u :: us, l => by
    rw [List.zip_cons_cons, List.map_cons, List.zipWith_cons_cons, List.zip_cons_cons, map_zip (ks := xs) (by simpa using l)]
    split <;> rfl
theorem put_zip {k : κ} {v : V} {ks : List κ} {us : List V} (l : ks.length = us.length) : putK (ks.zip us) k v = (dkKs ks k).zip (dkDs ks us k v) := by
  unfold putK dkKs dkDs
  rw [any_zip l]
  split
  · exact map_zip l
  · rw [List.zip_append l]; rfl
theorem put_len {α : Type} {k : κ} {v : α} {ks : List κ} {us : List α} (l : ks.length = us.length) : (dkKs ks k).length = (dkDs ks us k v).length := by
  unfold dkKs dkDs
  split
  · simp [l]
  · simp [l]
theorem put_dens {K : PySem.W.Frag} {W : Wd} {dr : Option Addr} {F : Hp} {k : κ} {v : V} {d : D} (hv : Den K W dr F v d) : ∀ {ks : List κ} {us : List V} {ds : List D}, Dens K W dr F us ds → Dens K W dr F (List.zipWith (fun x e => if x = k then v else e) ks us) (List.zipWith (fun x e => if x = k then d else e) ks ds)
  | [], _, _, _ => by simp; exact .nil
  | x :: xs, _, _, .nil => by simp; exact .nil
  | x :: xs, _, _, .cons h1 h2 => by
    rw [List.zipWith_cons_cons, List.zipWith_cons_cons]
    refine .cons ?_ (put_dens hv h2)
    split
    · exact hv
    · exact h1
theorem dkDs_dens {K : PySem.W.Frag} {W : Wd} {dr : Option Addr} {F : Hp} {k : κ} {v : V} {d : D} {ks : List κ} {us : List V} {ds : List D} (hv : Den K W dr F v d) (h : Dens K W dr F us ds) : Dens K W dr F (dkDs ks us k v) (dkDs ks ds k d) := by
  unfold dkDs
  split
  · exact put_dens hv h
  · exact h.append (.cons hv .nil)
end
def dIxA (x y : D) : Option D := match x with
  | .dic ks ds => (match keyD y with | some k => valD ks ds k | none => none)
  | _ => dIx x y
section
variable {X : Cx} {W : Wd} {a b : Expr} {fa fb : EX} {pos : Pos}
def rIxDG : R2 := fun x y H Q => ∃ a v, x = .ref a ∧ DGet H a y (some v) ∧ Q v H
theorem ix_dict (hu : X.A.units + 1 < cLine) : IxR X rIxDG := by
  intro value slice pins s σ H x y v u Q I rx ry h hs
  obtain ⟨a, w, rfl, g, q⟩ := h
  cases rx
  exact tail_any (dict_typeIs I g) PySem.F.slot_dict_getitem.lookup (d_getItem hu I g ry fun w' s3 I3 rw' => ⟨w, H, I3, rw', q⟩) hs
theorem q_ixA {K : PySem.W.Frag} : Op2 K W (fun x y H Q => rIx K x y H Q ∨ rIxDG x y H Q) dIxA := by
  intro fr F H σ ρ n x y d v u Q R dx dy h k
  unfold dIxA at h
  split at h
  · rename_i ks ds
    cases q : keyD y with
    | none => rw [q] at h; cases h
    | some key =>
      rw [q] at h
      have hk := key_of dy q
      subst hk
      cases dx with
      | dic l h1 h2 =>
        obtain ⟨w, e1, e2⟩ := val_zip l h2 h
        exact .inr ⟨_, w, rfl, .inl ⟨_, key, R.core.sub.rd h1.rd, rfl, e1.symm⟩, k F H w R (Sub.refl _) e2⟩
  · exact .inl (q_ix fr F H σ ρ n x y d v u Q R dx dy h k)
theorem d_ixA (hu : X.A.units + 64 < cLine) (ha : PD X W a fa) (hb : PD X W b fb) (hs : PlainIx b := by exact fun _ _ => rfl) : PD X W (.Subscript a b pos) (e2 dIxA fa fb) :=
  imp_E (pe_ix (ix_seq.or (ix_dict (by omega))) ha hb hs) fun _ _ _ h => d_tOp q_ixA h
/-! ### a store in an own dict -/
def dPut (kd : D × D) : D → Option D
  | .dic ks ds => (match keyD kd.1 with
    | some k => if ks.length < sizeLine then some (.dic (dkKs ks k) (dkDs ks ds k kd.2)) else none
    | none => none)
  | _ => none
def sPut (i : Nat) (fk fv : EX) : SX := fun ρ => M.bind (fv ρ) fun d => M.bind (M.opt (own? ρ i)) fun _ => M.bind (fk ρ) fun k => M.bind (M.opt ((own? ρ i).bind (dPut (k, d)))) fun o => M.pure (.nx (ρ.set i (.own o)))
theorem S_dput {i : Nat} {o ie value : Expr} {fk fv : EX} {p2 : Pos} (hu : X.A.units + 64 < cLine) (ho : PE X o (tVar i)) (hk : PD X W ie fk) (hv : PD X W value fv) (hs : swapsWith value (some (.Subscript o ie p2)) pos.line X.env = pure false := by rfl) :
    PDS X W (.Assign [.Subscript o ie p2] value pos) (sPut i fk fv) := imp_S (ps_dput (by omega) ho hk hv hs) fun E σ H ⟨fr, F, ρ, n, r, n', R, e, k⟩ => by
  rcases M.bind_any e with ⟨z, e1, rfl⟩ | ⟨d, n1, e1, h0⟩
  · exact ⟨fr, F, ρ, n, .error z, n', R, e1, KS.x k⟩
  rcases M.bind_any h0 with ⟨z, e1, rfl⟩ | ⟨od0, n1', e0, h1⟩
  · exact (M.opt_err e1).elim
  obtain ⟨q0, q1⟩ := M.opt_ok e0
  subst q1
  rcases r with z | o
  · refine ⟨fr, F, ρ, n, .ok d, _, R, e1, fun F1 H1 v R1 s1 d1 => ?_⟩
    obtain ⟨ad0, s0⟩ := R1.slots
    obtain ⟨z1, _⟩ := s0.own i _ (own_some q0)
    refine ⟨_, z1, R1.dE h1 (KX.mono (KS.x k) s1) fun _ _ _ _ _ _ h _ _ _ => ?_⟩
    rcases M.bind_err h with h | ⟨_, _, _, h⟩
    · exact (M.opt_err h).elim
    · exact (M.pure_err h).elim
  clear e h0 e0
  obtain ⟨kd, n2, e2, h2⟩ := M.bind_ok h1
  obtain ⟨dd, n3, e3, h3⟩ := M.bind_ok h2
  obtain ⟨e4, e5⟩ := M.opt_ok e3
  obtain ⟨e6, e7⟩ := M.pure_ok h3
  subst e5 e6 e7
  cases q : own? ρ i with
  | none => rw [q] at e4; cases e4
  | some od =>
    rw [q] at e4
    have e4 : dPut (kd, d) od = some dd := e4
    have hi := own_some q
    unfold dPut at e4
    split at e4
    · rename_i dd0 ks ds ehi
      cases qk : keyD kd with
      | none => rw [qk] at e4; cases e4
      | some key =>
        rw [qk] at e4
        have e4 : (if ks.length < sizeLine then some (D.dic (dkKs ks key) (dkDs ks ds key d)) else none) = some dd := e4
        split at e4
        · rename_i hl
          cases e4
          refine ⟨fr, F, ρ, n, .ok d, _, R, e1, fun F1 H1 v R1 s1 d1 => ?_⟩
          obtain ⟨ad0, s0⟩ := R1.slots
          obtain ⟨z1, _⟩ := s0.own i _ hi
          refine ⟨_, z1, fr, F1, ρ, _, .ok kd, _, R1, e2, fun F2 H2 u R2 s2 d2 => ?_⟩
          obtain ⟨ad, s⟩ := R2.slots
          obtain ⟨a1, a2, a3, a4, ⟨us, a5, a6, a7⟩, a8⟩ := s.own i _ hi
          have ea : ad i = ad0 i := by rw [a1] at z1; injection z1 with z1; injection z1 with z1; injection z1
          have hu := key_of d2 qk
          subst hu
          have d1' := d1.mono s2 fun _ z => z
          refine ⟨ad i, _, by rw [ea], .inl ⟨_, key, a6, rfl, by rw [List.length_zip, a5, Nat.min_self, ← a5]; exact hl, rfl⟩, ?_⟩
          rw [put_zip a5]
          exact k F2 _ _ (R2.change s hi ⟨_, put_len a5, upd_same, dkDs_dens d1' a7⟩ rfl) (s1.trans s2)
        · cases e4
    · cases e4
end
end DL
end

section
set_option Elab.async false
set_option linter.all false
set_option autoImplicit false
set_option maxRecDepth 100000
namespace DL
open PySem PySem.Spec L2 PyProof.Rows
section
variable {X : Cx} {W : Wd} {a b e : Expr} {fa fb f : EX} {pos : Pos}
/-! ### list(d) -/
def rListR : List V → Hp → VK → Prop := fun xs H Q => ∃ p kvs, xs = [.ref p] ∧ Rd H p (.dK kvs) ∧ ∀ q, H q = none → Q (.ref q) (upd H q (.lst (kvs.map fun kv => kV kv.1)))
theorem call_list_dR (hc : X.calm = true) : CallR X (.type "list") rListR := by
  intro pins s σ H xs us Q I r h
  obtain ⟨p, kvs, e, hk, q⟩ := h
  subst e
  obtain ⟨u, eu, rx⟩ := vals1 r
  subst eu
  obtain rfl : u = Value.ref p := rx
  obtain ⟨z, lo, vs, rk, hd⟩ := dk_rd I.hok hk
  obtain ⟨ep, hat⟩ := hd.dictAt
  have hl : kvs.length = vs.length := Paired.length rk
  refine PySem.W.kdl_call (PySem.W.kdl_dict (knd := mixKind X.prog X.w) (kvs := vs) (ep := ep) lo) (I.ok.hd hc) hat (by rw [← hl]; exact z) fun h' tk acc' c' hkeep hS hacc => ?_
  refine ⟨.ref s.heap.objs.size, upd H s.heap.objs.size (.lst (kvs.map fun kv => kV kv.1)), I.laid hkeep (Nat.le_refl _) (show ObjOk X.prog X.w _ _ _ (.lst (kvs.map fun kv => kV kv.1)) from ⟨?_, acc'.toList, c', ?_, ?_⟩), rfl, q _ (I.hok.fresh (Nat.le_refl _))⟩
  · rw [List.length_map]; exact z
  · have el : acc'.toList.length = acc'.size := by simp
    refine vals_of_at (by rw [List.length_map, el, hacc.1, hl]) fun j x w h1 h2 => ?_
    obtain ⟨k, y, hky, hi⟩ := hacc.2 j w (by rw [← Array.getElem?_toList]; exact h2)
    have e1 : (kvs.map (·.1))[j]? = some k := by
      rw [KV.keys rk, List.getElem?_map, hky] <;> rfl
    have e2 : (kvs.map fun kv => kV kv.1)[j]? = some (kV k) := by
      have e3 : (kvs.map fun kv => kV kv.1) = (kvs.map (·.1)).map kV := by rw [List.map_map] <;> rfl
      rw [e3, List.getElem?_map, e1] <;> rfl
    rw [e2] at h1
    cases h1
    exact keyIs_rel hi
  · rw [Array.toArray_toList]; exact hS
def kD : Key → D
  | .inl i => .int i
  | .inr x => .str x
def dLstA : List D → Option D
  | [.dic ks _] => some (.lst (ks.map kD))
  | xs => dLstOf xs
theorem dens_keys {K : PySem.W.Frag} {dr : Option Addr} {F : Hp} : ∀ {ks : List Key} {us : List V}, ks.length = us.length → Dens K W dr F ((ks.zip us).map fun kv => kV kv.1) (ks.map kD)
  | [], _, _ => by simp; exact .nil
  | k :: ks, [], l => by cases l
  | k :: ks, u :: us, l => by
    rw [List.zip_cons_cons, List.map_cons, List.map_cons]
    refine .cons ?_ (dens_keys (by simpa using l))
    cases k with
    | inl i => exact .int i
    | inr x => exact .str x
theorem q_lstA {K : PySem.W.Frag} : CallD K W (fun xs H Q => (∃ p ys, xs = [.ref p] ∧ (SqL K H p ys ∨ SqT K H p ys) ∧ ∀ l, H l = none → Q (.ref l) (upd H l (.lst ys))) ∨ rListR xs H Q) dLstA := by
  intro fr F H σ ρ n xs d vs Q R dx h k
  unfold dLstA at h
  split at h
  · cases h
    cases dx with
    | cons h1 h2 =>
      cases h2
      cases h1 with
      | dic l h3 h4 => exact .inr ⟨_, _, rfl, R.core.sub.rd h3.rd, put_lst R (dens_keys l) k⟩
  · exact .inl (q_lstOf fr F H σ ρ n xs d vs Q R dx h k)
theorem call_listA (hc : X.calm = true) : CallR X (.type "list") (fun xs H Q => (∃ p ys, xs = [.ref p] ∧ (SqL X.K H p ys ∨ SqT X.K H p ys) ∧ ∀ l, H l = none → Q (.ref l) (upd H l (.lst ys))) ∨ rListR xs H Q) := call_list_of.or (call_list_dR hc)
/-! ### texts in order -/
def dCA (p : Int → Int → Bool) (q : Str → Str → Bool) : D → D → Option D
  | .int i, .int j => some (.bl (p i j))
  | .str i, .str j => some (.bl (q i j))
  | _, _ => none
def dLeA : D → D → Option D := dCA (fun i j => decide (i ≤ j)) fun i j => !decide (j.cps.toList < i.cps.toList)
def rCA (p : Int → Int → Bool) (q : Str → Str → Bool) : R2 := fun x y H Q => rI0 (fun i j => .bl (p i j)) x y H Q ∨ ∃ i j, x = .str i ∧ y = .str j ∧ Q (.bl (q i j)) H
theorem q_CA {K : PySem.W.Frag} (p : Int → Int → Bool) (q : Str → Str → Bool) : Op2 K W (rCA p q) (dCA p q) := by
  intro fr F H σ ρ n x y d v u Q R dx dy h k
  unfold dCA at h
  split at h
  · cases dx; cases dy; cases h
    exact .inl ⟨_, _, rfl, rfl, k F H _ R (Sub.refl _) (.bl _)⟩
  · cases dx; cases dy; cases h
    exact .inr ⟨_, _, rfl, rfl, k F H _ R (Sub.refl _) (.bl _)⟩
  · cases h
theorem d_leA (ha : PD X W a fa) (hb : PD X W b fb) : PD X W (.Compare a [.LtE] [b] pos) (e2 dLeA fa fb) := d_cmp (op_le.or op_le_str) (q_CA _ _) ha hb (nomark _)
/-! ### x.split(y) -/
theorem dens_strs {K : PySem.W.Frag} {dr : Option Addr} {F : Hp} : ∀ ys : List Str, Dens K W dr F (ys.map V.str) (ys.map D.str)
  | [] => .nil
  | y :: ys => .cons (.str y) (dens_strs ys)
end
end DL
end

section
set_option Elab.async false
set_option linter.all false
set_option autoImplicit false
set_option maxRecDepth 100000
namespace DL
open PySem PySem.Spec L2 PyProof.Rows
section
variable {α : Type}
def ins (le : α → α → Bool) (x : α) : List α → List α
  | [] => [x]
  | y :: r => if le x y = true then x :: y :: r else y :: ins le x r
def srt (le : α → α → Bool) : List α → List α
  | [] => []
  | x :: r => ins le x (srt le r)
theorem ins_perm (le : α → α → Bool) (x : α) : ∀ l : List α, (ins le x l).Perm (x :: l)
  | [] => .refl _
  | y :: r => by
    unfold ins
    split
    · exact .refl _
    · exact ((ins_perm le x r).cons y).trans (.swap x y r)
theorem srt_perm (le : α → α → Bool) : ∀ l : List α, (srt le l).Perm l
  | [] => .refl _
  | x :: r => (ins_perm le x _).trans ((srt_perm le r).cons x)
theorem ins_sorted {le : α → α → Bool} (tot : ∀ x y, le x y = true ∨ le y x = true) (tr : ∀ x y z, le x y = true → le y z = true → le x z = true) (x : α) : ∀ l : List α, l.Pairwise (fun a b => le a b = true) → (ins le x l).Pairwise (fun a b => le a b = true)
  | [], _ => List.pairwise_singleton ..
  | y :: r, h => by
    unfold ins
    rw [List.pairwise_cons] at h
    split
    · rename_i q
      refine List.pairwise_cons.mpr ⟨fun z hz => ?_, List.pairwise_cons.mpr h⟩
      rcases List.mem_cons.mp hz with e | e
      · rw [e]; exact q
      · exact tr _ _ _ q (h.1 z e)
    · rename_i q
      refine List.pairwise_cons.mpr ⟨fun z hz => ?_, ins_sorted tot tr x r h.2⟩
      rcases List.mem_cons.mp ((ins_perm le x r).mem_iff.mp hz) with e | e
      · rw [e]
        rcases tot x y with t | t
        · exact absurd t q
        · exact t
      · exact h.1 z e
theorem srt_sorted {le : α → α → Bool} (tot : ∀ x y, le x y = true ∨ le y x = true) (tr : ∀ x y z, le x y = true → le y z = true → le x z = true) : ∀ l : List α, (srt le l).Pairwise (fun a b => le a b = true)
  | [] => .nil
  | x :: r => ins_sorted tot tr x _ (srt_sorted tot tr r)
theorem perm_uniq {R : α → α → Prop} (anti : ∀ x y, R x y → R y x → x = y) : ∀ {l m : List α}, l.Pairwise R → m.Pairwise R → l.Perm m → l = m
  | [], m, _, _, p => by rw [List.Perm.nil_eq p]
  | x :: l, [], _, _, p => absurd p.symm.nil_eq (by simp)
  | x :: l, y :: m, h, h', p => by
    rw [List.pairwise_cons] at h h'
    have e : x = y := by
      rcases List.mem_cons.mp (p.mem_iff.mp List.mem_cons_self) with e | e
      · exact e
      · rcases List.mem_cons.mp (p.mem_iff.mpr List.mem_cons_self) with e' | e'
        · exact e'.symm
        · exact anti _ _ (h.1 y e') (h'.1 x e)
    subst e
    rw [perm_uniq anti h.2 h'.2 (List.Perm.cons_inv p)]
end
def leS (x y : Str) : Bool := !ltCps y.cps.toList x.cps.toList
def leZ (x y : Int) : Bool := decide (x ≤ y)
theorem leS_iff (x y : Str) : leS x y = true ↔ x.cps.toList ≤ y.cps.toList := by
  unfold leS
  rw [ltCps_eq]
  simp
theorem leS_tot (x y : Str) : leS x y = true ∨ leS y x = true := by
  rw [leS_iff, leS_iff]; exact List.le_total _ _
theorem leS_tr (x y z : Str) (h : leS x y = true) (h' : leS y z = true) : leS x z = true := by
  rw [leS_iff] at *; exact List.le_trans h h'
theorem leS_anti (x y : Str) (h : leS x y = true) (h' : leS y x = true) : x = y := by
  rw [leS_iff] at *
  have := List.le_antisymm h h'
  cases x; cases y
  simp at this
  rw [this]
theorem rising_pw : ∀ (x : Str) (r : List Str), risingS x r = true → (x :: r).Pairwise (fun a b => leS a b = true)
  | x, [], _ => List.pairwise_singleton ..
  | x, y :: r, h => by
    have h' : (!ltCps y.cps.toList x.cps.toList && risingS y r) = true := h
    rw [Bool.and_eq_true] at h'
    have ih := rising_pw y r h'.2
    refine List.pairwise_cons.mpr ⟨fun z hz => ?_, ih⟩
    rcases List.mem_cons.mp hz with e | e
    · rw [e]; exact h'.1
    · exact leS_tr _ _ _ h'.1 ((List.pairwise_cons.mp ih).1 z e)
theorem sortedS_pw {l : List Str} (h : sortedS l = true) : l.Pairwise (fun a b => leS a b = true) := by
  cases l with
  | nil => exact .nil
  | cons x r => exact rising_pw x r h
def strsD : List D → Option (List Str)
  | [] => some []
  | .str x :: r => (match strsD r with | some l => some (x :: l) | none => none)
  | _ :: _ => none
def intsD : List D → Option (List Int)
  | [] => some []
  | .int x :: r => (match intsD r with | some l => some (x :: l) | none => none)
  | _ :: _ => none
theorem strsD_ok {K : PySem.W.Frag} {W : Wd} {dr : Option Addr} {F : Hp} : ∀ {vs : List V} {ds : List D} {l : List Str}, Dens K W dr F vs ds → strsD ds = some l → vs = l.map V.str
  | _, _, _, .nil, h => by cases h; rfl
  | _, d :: ds, _, .cons h1 h2, h => by
    unfold strsD at h
    split at h
    · rename_i e
      cases e
    · rename_i x r e
      cases e
      split at h
      · rename_i l q
        cases h
        cases h1
        rw [strsD_ok h2 q]; rfl
      · cases h
    · cases h
theorem intsD_ok {K : PySem.W.Frag} {W : Wd} {dr : Option Addr} {F : Hp} : ∀ {vs : List V} {ds : List D} {l : List Int}, Dens K W dr F vs ds → intsD ds = some l → vs = l.map V.int
  | _, _, _, .nil, h => by cases h; rfl
  | _, d :: ds, _, .cons h1 h2, h => by
    unfold intsD at h
    split at h
    · rename_i e
      cases e
    · rename_i x r e
      cases e
      split at h
      · rename_i l q
        cases h
        cases h1
        rw [intsD_ok h2 q]; rfl
      · cases h
    · cases h
def dSorted : List D → Option D
  | [.lst ds] => (match strsD ds with
    | some l => if l.length < 64 then some (.lst ((srt leS l).map .str)) else none
    | none => (match intsD ds with
      | some l => some (.lst ((srt leZ l).map .int))
      | none => none))
  | _ => none
section
variable {X : Cx} {W : Wd}
theorem dens_ints {K : PySem.W.Frag} {dr : Option Addr} {F : Hp} : ∀ ys : List Int, Dens K W dr F (ys.map V.int) (ys.map D.int)
  | [] => .nil
  | y :: ys => .cons (.int y) (dens_ints ys)
theorem call_sortedA : CallR X (.builtin "sorted") (fun xs H Q => rSortedS X.K xs H Q ∨ rSortedI X.K xs H Q) := cr_sortedS.or cr_sortedI
theorem q_sorted {K : PySem.W.Frag} : CallD K W (fun xs H Q => rSortedS K xs H Q ∨ rSortedI K xs H Q) dSorted := by
  intro fr F H σ ρ n xs d vs Q R dx h k
  unfold dSorted at h
  split at h
  · rename_i ds
    cases dx with
    | cons h1 h2 =>
      cases h2
      cases h1 with
      | lst h3 h4 =>
        split at h
        · rename_i l q
          split at h
          · rename_i hl
            cases h
            have e := strsD_ok h4 q
            subst e
            refine .inl ⟨_, l, rfl, SqL.of (R.core.sub _ _ h3), hl, fun ys p hp hs hn => ?_⟩
            have e : ys = srt leS l := perm_uniq leS_anti (sortedS_pw hs) (srt_sorted leS_tot leS_tr l) (hp.trans (srt_perm leS l).symm)
            rw [e]
            exact put_lst R (dens_strs _) k p hn
          · cases h
        · split at h
          · rename_i l q
            cases h
            have e := intsD_ok h4 q
            subst e
            refine .inr ⟨_, l, rfl, SqL.of (R.core.sub _ _ h3), fun ys p hp hs hn => ?_⟩
            have e : ys = srt leZ l := perm_uniq (R := fun a b : Int => leZ a b = true) (fun x y h h' => by have a := of_decide_eq_true h; have b := of_decide_eq_true h'; omega) (hs.imp fun h => decide_eq_true h) (srt_sorted (fun x y => by unfold leZ; simp; omega) (fun x y z h h' => by have a := of_decide_eq_true h; have b := of_decide_eq_true h'; exact decide_eq_true (by omega)) l) (hp.trans (srt_perm leZ l).symm)
            rw [e]
            exact put_lst R (dens_ints _) k p hn
          · cases h
  · cases h
end
end DL
end

section
set_option Elab.async false
set_option linter.all false
set_option autoImplicit false
set_option maxRecDepth 100000
namespace DL
open PySem PySem.Spec L2 PyProof.Rows
section
variable {X : Cx} {W : Wd} {a : Addr}
/-- the table and its keys in their order -/
structure KTabs (K : PySem.W.Frag) (w : World) (W : Wd) (a : Addr) (tbl : List (Str × D)) : Prop extends KTab K w W a tbl where
  ord : ∃ (es : Array DictEntry) (n : Nat), KDict K w a es n ∧ es.toList.map He.keyOf = He.keysIn w.params (tbl.map (·.1))
  few : tbl.length ≤ 1000
end
end DL
namespace DL
open PySem PySem.Spec L2
theorem d_cint {X : Cx} {W : Wd} {x : Str} {pos : Pos} {i : Int} (hg : Gl X x) (h : ∃ t, X.mg x = some (.int i t)) (hd : (x == ("__debug__" : Str)) = false := by decide) : PD X W (.Name x pos) (eC (.int i)) :=
  h.elim fun t e => d_glob (v := .int i) hg e ⟨t, rfl⟩ (fun _ _ _ _ => .int _) hd
end DL
end

section
set_option Elab.async false
set_option linter.all false
set_option autoImplicit false
set_option maxRecDepth 100000
namespace DL
open PySem PySem.Spec L2 PyProof.Rows
def dIntA : List D → Option D
  | [.str a] => (match PySem.intText? a with
    | some n => if a.length ≤ 640 then some (.int n) else none
    | none => none)
  | xs => dInt xs
section
variable {X : Cx} {W : Wd}
def rIntT : List V → Hp → VK → Prop := fun xs H Q => ∃ a n, xs = [.str a] ∧ PySem.intText? a = some n ∧ a.length ≤ 640 ∧ Q (.int n) H
theorem call_intA : CallR X (.type "int") (fun xs H Q => ((∃ i, xs = [.int i] ∧ Q (.int i) H) ∨ ∃ k, xs = [.bl k] ∧ Q (.int (if k then 1 else 0)) H) ∨ rIntT xs H Q) := call_int1.or call_int_str
theorem q_intA {K : PySem.W.Frag} : CallD K W (fun xs H Q => ((∃ i, xs = [.int i] ∧ Q (.int i) H) ∨ ∃ k, xs = [.bl k] ∧ Q (.int (if k then 1 else 0)) H) ∨ rIntT xs H Q) dIntA := by
  intro fr F H σ ρ n xs d vs Q R dx h k
  unfold dIntA at h
  split at h
  · rename_i a
    cases q : PySem.intText? a with
    | none => rw [q] at h; cases h
    | some m =>
      rw [q] at h
      have h : (if a.length ≤ 640 then some (D.int m) else none) = some d := h
      split at h
      · rename_i hl
        cases h
        cases dx with
        | cons h1 h2 => cases h2; cases h1; exact .inr ⟨a, m, rfl, q, hl, k F H _ R (Sub.refl _) (.int _)⟩
      · cases h
  · exact .inl (q_int fr F H σ ρ n xs d vs Q R dx h k)
end
end DL
end

section
set_option Elab.async false
set_option linter.all false
set_option autoImplicit false
set_option maxRecDepth 100000
set_option maxHeartbeats 1000000
namespace DL
open PySem PySem.Spec L2
/-! ### exceptions -/
/-- an own class of exceptions without __init__ -/
structure XCls (K : PySem.W.Frag) (mg : Str → Option Value) (x : Str) (C : Addr) : Prop where
  base : PySem.W.excIn K C [.type "ValueError", .type "Exception", .type "BaseException", .type "object"] "ValueError.__new__" = true
  g : mg x = some (.ref C)
  kp : PySem.W.keepIn K (.ref C) = true
  sub : PySem.W.subIn K (.ref C) (.type "BaseException") = some true
  ty : PySem.W.typeIn K (.ref C) = some (.type "type")
section
variable {X : Cx} {W : Wd}
theorem pmk_of_N {e : Expr} {t : St → Hp → XK → Prop} (h : L2N.PMk X e t) : L2.PMk X e t := fun pins s σ H Q I q => wpAny_mono (h pins s σ H Q I q) (fun u s' ⟨a, oe, vs, sI, H', cls, d, e1, J, k, hne, ha, hz, r⟩ => ⟨a, oe, vs, sI, H', cls, d, e1, J, k, hne, ha, hz.zc, r⟩) fun _ _ x => x
/-- a raise where nothing is handled -/
theorem raiseM {b : Bool} {e : Expr} {t : St → Hp → XK → Prop} {pos : Pos} (hc : X.calm = true) (he : L2N.PMk X e t) : PS X (.Raise (some e) none pos) (fun _ σ H => t σ H fun cls d H' => Acc b X cls d σ H') := by
  cases b
  · exact L2.ps_raise hc takesAccF (pmk_of_N he)
  · exact L2N.ps_raise hc takesAccT he
/-- raise C('..') -/
def sRaise (c : Nat) : SX := fun _ n => some (.error ⟨c, [], []⟩, n)
theorem S_raise {c : Nat} {x m : Str} {j : Nat} {p p2 pos pos' : Pos} (hc : X.calm = true) (F : XCls X.K X.mg x (W.cl c)) (hg : Gl X x) (hdb : (x == ("__debug__" : Str)) = false := by decide) : PDS X W (.Raise (some (.Call (.Name x p) [.Constant (.str m) j p2] [] pos)) none pos') (sRaise c) :=
  imp_S (raiseM hc (L2N.pmk_own PySem.F.excBase_ValueError F.base F.g F.kp (raises_own F.sub F.ty) hg hdb)) fun E σ H ⟨fr, G, ρ, n, r, n', R, e, k⟩ => by
    unfold sRaise at e
    cases e
    exact k G H σ _ _ R.core (Sub.refl _) ⟨rfl, .inl ⟨rfl, rfl, rfl⟩⟩
/-- a statement that lets its errors out at the slots as they were -/
def tSx (X : Cx) (W : Wd) (g : SX) : TS := fun E σ H => ∃ fr F ρ n r n', Rel X.K W fr F H σ ρ n ∧ g ρ n = some (r, n') ∧ Res (fun o => OutK X.K W fr F E o n') (KX X W fr F σ ρ n') r
theorem S_expX {e : Expr} {f : EX} {pos : Pos} (he : PD X W e f) (hs : swapsWith e none pos.line X.env = pure false := by rfl) : PS X (.Expr e pos) (tSx X W (sExp f)) := imp_S (ps_expr he hs) fun E σ H ⟨fr, F, ρ, n, r, n', R, e, k⟩ => by
  rcases r with z | o
  · exact R.dE e k fun _ _ _ _ _ _ h _ _ _ => (M.pure_err h).elim
  obtain ⟨x, n1, e1, h⟩ := M.bind_ok e
  obtain ⟨h1, h2⟩ := M.pure_ok h
  subst h1 h2
  exact ⟨fr, F, ρ, n, .ok x, _, R, e1, fun F1 H1 v R1 s1 d1 => k F1 H1 σ R1 s1⟩
/-- behind a body that hands its ends to the rest: x = e; return .. (the rest raises nothing) -/
def sSeqX (g h : SX) : SX := fun ρ => M.bind (g ρ) fun o => match o with
  | .nx ρ' => M.calm (h ρ')
  | .bk ρ' => M.pure (.bk ρ')
  | .ct ρ' => M.pure (.ct ρ')
  | .ret d => M.pure (.ret d)
  | .rn ρ' => M.pure (.rn ρ')
theorem S_consX {st : Stmt} {r : List Stmt} {g h : SX} (hg : PS X st (tSx X W g)) (hh : PDSs X W r h) : PSs X (st :: r) (tSx X W (sSeqX g h)) := imp_Ss (pss_cons hg hh) fun E σ H ⟨fr, F, ρ, n, r, n', R, e, k⟩ => by
  rcases M.bind_any e with ⟨z, e1, rfl⟩ | ⟨o1, n1, e1, h⟩
  · exact ⟨fr, F, ρ, n, .error z, n', R, e1, k⟩
  refine ⟨fr, F, ρ, n, .ok o1, n1, R, e1, ?_⟩
  cases o1 with
  | nx ρ1 =>
    rcases r with z | o
    · exact (M.calm_err h).elim
    · exact fun F1 H1 σ1 R1 s1 => ⟨fr, F1, ρ1, n1, .ok o, n', R1, M.calm_ok h, OutK.mono s1 k⟩
  | bk ρ1 =>
    obtain ⟨h1, h2⟩ := M.pure_any h
    subst h1 h2
    exact k
  | ct ρ1 =>
    obtain ⟨h1, h2⟩ := M.pure_any h
    subst h1 h2
    exact k
  | ret d =>
    obtain ⟨h1, h2⟩ := M.pure_any h
    subst h1 h2
    exact k
  | rn ρ1 =>
    obtain ⟨h1, h2⟩ := M.pure_any h
    subst h1 h2
    exact k
/-- what raises nothing -/
def tSk (K : PySem.W.Frag) (W : Wd) (g : SX) : TS := fun E σ H => ∃ fr F ρ n o n', Rel K W fr F H σ ρ n ∧ g ρ n = some (.ok o, n') ∧ OutK K W fr F E o n'
theorem sk {st : List Stmt} {g : SX} (h : PDSs X W st g) : PSs X st (tSk X.K W g) := imp_Ss h fun E σ H ⟨fr, F, ρ, n, o, n', R, e, k⟩ => ⟨fr, F, ρ, n, .ok o, n', R, e, k⟩
/-- a body's wish about exceptions by a wish at the slots -/
def tSW (K : PySem.W.Frag) (W : Wd) (Wx : WX) (g : SX) : TS := fun E σ H => ∃ fr F ρ n r n', Rel K W fr F H σ ρ n ∧ g ρ n = some (r, n') ∧ Res (fun o => OutK K W fr F E o n') (fun z => ∀ F' H' cls d, Rel K W fr F' H' σ ρ n' → Sub F F' → XDen K W fr.dr F' H' z cls d → Wx cls d σ H') r
theorem sw_of {st : List Stmt} {g : SX} {Wx : WX} (tk : Takes X Wx) (h : PSs X st (tSx X W g)) : PSs X st (tSW X.K W Wx g) := imp_Ss h fun E σ H ⟨fr, F, ρ, n, r, n', R, e, k⟩ => by
  rcases r with z | o
  · exact ⟨fr, F, ρ, n, .error z, n', R, e, fun F' H' cls d R' s' x => Acc.of tk (k F' H' cls d R' s' x)⟩
  · exact ⟨fr, F, ρ, n, .ok o, n', R, e, k⟩
/-- try: g except c: h; m: which classes the clause takes -/
def sTry (m : Nat → Option Bool) (g h : SX) : SX := fun ρ n => match g ρ n with
  | some (.error z, n1) => (match m z.c with
    | some true => M.calm (h ρ) n1
    | some false => some (.error z, n1)
    | none => none)
  | r => r
theorem S_try (hmd : W.md = false) {x : Str} {c : Value} {body suite : List Stmt} {b₀ : Stmt} {np pos pos' : Pos} {m : Nat → Option Bool} {g h : SX} (hs : X.stack = X.env :: X.outer) (hf : X.env.frame = some X.env.locals) (hc : Names X x c) (hm : ∀ i b, m i = some b → PySem.W.exmOne X.K (.ref (W.cl i)) c = some b)
    (hb : ∀ (pn : List (Addr × Obj)) (xe : Value → Shared → Prop), PassesOwn (model X.prog X.w) X.A X.env xe → PSs (X.tr pn xe) body (tSx (X.tr pn xe) W g))
    (hsu : ∀ (a : Addr) (pn : List (Addr × Obj)), PDSs (X.suite a pn) W (b₀ :: suite) h) :
    PDS X W (.Try body [.ExceptHandler (some (.Name x np)) none (b₀ :: suite) pos'] [] [] pos) (sTry m g h) :=
  imp_S (ps_try_only (Wout := Acc W.md X) (tb := fun Wx => tSW X.K W Wx g) (ts := fun _ _ _ => tSk X.K W h) hs hf hc (takesAcc hmd) (fun Wx pn xe tk po => sw_of tk (hb pn xe po)) fun a oe cls d pn _ _ => sk (hsu a _)) fun E σ H ⟨fr, F, ρ, n, r, n', R, e, k⟩ => by
    unfold sTry at e
    split at e
    · rename_i z n1 eg
      refine ⟨fr, F, ρ, n, .error z, n1, R, eg, fun F1 H1 cls d R1 s1 x => ?_⟩
      have ec : cls = .ref (W.cl z.c) := x.1
      split at e
      · rename_i hz
        rcases r with z' | o
        · exact (M.calm_err e).elim
        · exact ⟨true, by rw [ec]; exact hm _ _ hz, fun _ _ _ => ⟨fr, F1, ρ, n1, o, n', R1, M.calm_ok e, OutK.mono s1 k⟩, fun q => nomatch q⟩
      · rename_i hz
        cases e
        exact ⟨false, by rw [ec]; exact hm _ _ hz, (fun q => nomatch q), fun _ => k F1 H1 σ cls d R1.core s1 x⟩
      · cases e
    · rename_i hne
      rcases r with z | o
      · exact absurd e (hne z n')
      · exact ⟨fr, F, ρ, n, .ok o, n', R, e, k⟩
end
end DL
end

section
set_option Elab.async false
set_option linter.all false
set_option autoImplicit false
set_option maxRecDepth 100000
set_option maxHeartbeats 1000000
namespace DL
open PySem PySem.Spec L2
open PyProof.Rows (UnaryOp_ isTrue_plain not_of)
/-! ### own operators -/
section
variable {X : Cx} {W : Wd} {c k : Nat} {m : Str} {pos : Pos} {a b : Expr} {fa fb : EX} {fx : FX}
/-! ### comparisons, truth, attributes that raise nothing -/
end
end DL
end

section
set_option Elab.async false
set_option linter.all false
set_option autoImplicit false
set_option maxRecDepth 100000
set_option maxHeartbeats 1000000
namespace DL
open PySem PySem.Spec L2
/-! ### a != b by an own __eq__ -/
section
variable {X : Cx} {W : Wd} {c k : Nat} {pos : Pos} {a b : Expr} {fa fb : EX} {fx : FX}
end
end DL
end

section
set_option Elab.async false
set_option linter.all false
set_option autoImplicit false
set_option maxRecDepth 100000
set_option maxHeartbeats 1000000
namespace DL
open PySem PySem.Spec L2 RZ PyProof.Rows
/-! ### zip of a list and a tuple -/
/-- what an iterator `it` over the sequence at `l` with the items xs does, at turn i -/
structure Pull (S : Nat → Heap → Prop) (it l : Addr) (xs : Array Value) : Prop where
  one : ∀ {P : Program} {w : World} {A : Around} {E : Value → Shared → Prop} {s : Shared} {i : Nat} {x : Value} {Q : Value → Shared → Prop}, S i s.heap → xs[i]? = some x → (∀ h', S (i + 1) h' → Heap.SameBut it s.heap h' → Q x { s with heap := h' }) → wpAny (model P w) A (Builtin.SmallTypes.nextOf (.ref it)) Q E s
  out : ∀ {P : Program} {w : World} {A : Around} {E : Value → Shared → Prop} {s : Shared} {i : Nat} {Q : Value → Shared → Prop}, A.handled = none → S i s.heap → xs[i]? = none → (∀ h' e, Heap.ExtBut it s.heap h' → (∃ o, h'.get? e = some o ∧ o.cls = .type "StopIteration") → E (.ref e) { s with heap := h' }) → wpAny (model P w) A (Builtin.SmallTypes.nextOf (.ref it)) Q E s
  stay : ∀ {i : Nat} {h h' : Heap}, S i h → (∀ o, h.get? it = some o → h'.get? it = some o) → (∀ o, h.get? l = some o → h'.get? l = some o) → S i h'
  lt : ∀ {i : Nat} {h : Heap}, S i h → it < h.objs.size
section
variable {S1 S2 : Nat → Heap → Prop} {z TI TO i1 i2 l1 l2 : Addr} {xs ys : Array Value}
theorem Pull.ext {S : Nat → Heap → Prop} {it l b : Addr} {xs : Array Value} {i : Nat} {h h' : Heap} (p : Pull S it l xs) (s : S i h) (k : Heap.ExtBut b h h') (n1 : it ≠ b) (n2 : l ≠ b) : S i h' := p.stay s (fun o e => k _ o n1 e) fun o e => k _ o n2 e
end
/-! the call -/
abbrev zmA (h : Heap) (l : Addr) : Heap := h.push { cls := .type "list_iterator", data := .fields #[.ref l, .int 0 0] }
abbrev zmB (h : Heap) (l m : Addr) : Heap := (zmA h l).push { cls := .type "tuple_iterator", data := .fields #[.ref m, .int 0 0] }
abbrev zmC (h : Heap) (l m : Addr) : Heap := (zmB h l m).push { cls := .type "tuple", data := .seq #[.ref h.objs.size, .ref (zmA h l).objs.size] }
abbrev zmD (h : Heap) (l m : Addr) : Heap := (zmC h l m).push { cls := .type "tuple", data := .seq #[.none, .none] }
abbrev zmE (h : Heap) (l m : Addr) : Heap := (zmD h l m).push { cls := .type "zip", data := .fields #[.none, .bool false, .bool false, .ref (zmB h l m).objs.size, .ref (zmC h l m).objs.size] }
end DL
end

section
set_option Elab.async false
set_option linter.all false
set_option autoImplicit false
set_option maxRecDepth 100000
set_option maxHeartbeats 1000000
namespace DL
open PySem PySem.Spec L2 RZ
section
variable {X : Cx} {W : Wd} {pos : Pos} {a b : Expr} {fa fb : EX}
/-! ### zip of two lists, two tuples -/
/-! ### x in a list, a tuple of flat items, a dict -/
def flatD : D → Bool
  | .non => true
  | .bl _ => true
  | .int _ => true
  | .str _ => true
  | _ => false
def eqF : D → D → Bool
  | .non, .non => true
  | .bl a, .bl b => a == b
  | .bl a, .int b => (if a then 1 else 0) == b
  | .int a, .bl b => a == (if b then 1 else 0)
  | .int a, .int b => a == b
  | .str a, .str b => a == b
  | _, _ => false
theorem flat_of {K : PySem.W.Frag} {dr : Option Addr} {F : Hp} {v : V} {d : D} (h : Den K W dr F v d) (e : flatD d = true) : flatV v = true := by
  cases h <;> first | rfl | cases e
theorem eqF_of {K : PySem.W.Frag} {dr : Option Addr} {F : Hp} {v u : V} {d e : D} (h : Den K W dr F v d) (h' : Den K W dr F u e) (f : flatD d = true) (g : flatD e = true) : eqV v u = eqF d e := by
  cases h <;> cases h' <;> first | rfl | cases f | cases g
theorem flats_of {K : PySem.W.Frag} {dr : Option Addr} {F : Hp} : ∀ {vs : List V} {ds : List D}, Dens K W dr F vs ds → ds.all flatD = true → vs.all flatV = true
  | _, _, .nil, _ => rfl
  | _, _, .cons h r, e => by
    rw [List.all_cons, Bool.and_eq_true] at e
    rw [List.all_cons, flat_of h e.1, flats_of r e.2]; rfl
theorem inV_of {K : PySem.W.Frag} {dr : Option Addr} {F : Hp} {v : V} {d : D} (h : Den K W dr F v d) (f : flatD d = true) : ∀ {vs : List V} {ds : List D}, Dens K W dr F vs ds → ds.all flatD = true → inV v vs = ds.any fun e => eqF e d
  | _, _, .nil, _ => rfl
  | _, _, .cons h1 r, e => by
    rw [List.all_cons, Bool.and_eq_true] at e
    have := inV_of h f r e.2
    unfold inV at this ⊢
    rw [List.any_cons, List.any_cons, this, eqF_of h1 h e.1 f]
def dInB (x y : D) : Option Bool := match y with
  | .lst ys => if flatD x && ys.all flatD then some (ys.any fun e => eqF e x) else none
  | .tup ys => if flatD x && ys.all flatD then some (ys.any fun e => eqF e x) else none
  | .dic ks vs => (match keyD x with
    | some k => some (valD ks vs k).isSome
    | none => none)
  | _ => none
def dIn (x y : D) : Option D := match dInB x y with | some t => some (.bl t) | none => none
def dNi (x y : D) : Option D := match dInB x y with | some t => some (.bl (!t)) | none => none
def rDinG (g : Bool → Bool) : R2 := fun y x H Q => ∃ a o, x = .ref a ∧ DGet H a y o ∧ Q (.bl (g o.isSome)) H
theorem o_din (hu : X.A.units + 1 < cLine) : OpR X (compareOp .In) (rDinG fun t => t) := by
  rintro pins s σ H x y v u Q I rx ry ⟨p, o, rfl, g, q⟩
  have eu : u = Value.ref p := ry
  subst eu
  exact d_in hu I g rx fun s3 I3 => ⟨.bl o.isSome, H, I3, rfl, q⟩
theorem o_dni (hu : X.A.units + 1 < cLine) : OpR X (compareOp .NotIn) (rDinG fun t => !t) := by
  rintro pins s σ H x y v u Q I rx ry ⟨p, o, rfl, g, q⟩
  have eu : u = Value.ref p := ry
  subst eu
  exact d_notIn hu I g rx fun s3 I3 => ⟨.bl (!o.isSome), H, I3, rfl, q⟩
theorem valD_some {κ : Type} [DecidableEq κ] {K : PySem.W.Frag} {dr : Option Addr} {F : Hp} {k : κ} : ∀ {ks : List κ} {vs : List V} {ds : List D}, ks.length = vs.length → Dens K W dr F vs ds → (valV (ks.zip vs) k).isSome = (valD ks ds k).isSome
  | [], _, _, _, _ => by simp [valV, valD]
  | x :: xs, [], _, l, _ => by cases l
  | x :: xs, v :: vs, _, l, .cons h1 h2 => by
    rw [List.zip_cons_cons]
    unfold valD
    by_cases q : x = k
    · rw [if_pos q, valV_pos q]
      rfl
    · rw [if_neg q, valV_neg q]
      exact valD_some (ks := xs) (by simpa using l) h2
def rInA (K : PySem.W.Frag) (neg : Bool) : R2 := fun x y H Q => rIn K neg x y H Q ∨ rDinG (fun t => if neg then !t else t) x y H Q
theorem o_in (hu : X.A.units + 1 < cLine) : OpR X (compareOp .In) (rInA X.K false) := op_in_seq.or (o_din hu)
theorem o_ni (hu : X.A.units + 1 < cLine) : OpR X (compareOp .NotIn) (rInA X.K true) := op_notIn_seq.or (o_dni hu)
theorem q_inA {K : PySem.W.Frag} {fr : Fr} {F H : Hp} {σ : St} {ρ : Env} {n : Int} {x y : D} {t : Bool} {v u : V} {Q : VK} {neg : Bool} (R : Rel K W fr F H σ ρ n) (dx : Den K W fr.dr F v x) (dy : Den K W fr.dr F u y) (h : dInB x y = some t) (k : Q (.bl (if neg then !t else t)) H) : rInA K neg v u H Q := by
  unfold dInB at h
  split at h
  · split at h
    · rename_i q
      rw [Bool.and_eq_true] at q
      cases h
      cases dy with
      | lst h1 h2 => exact .inl ⟨_, _, rfl, .inl (SqL.of (R.core.sub _ _ h1)), flat_of dx q.1, flats_of h2 q.2, by rw [inV_of dx q.1 h2 q.2]; exact k⟩
    · cases h
  · split at h
    · rename_i q
      rw [Bool.and_eq_true] at q
      cases h
      cases dy with
      | tup h1 h2 => exact .inl ⟨_, _, rfl, .inr (R.core.sub.sqT h1), flat_of dx q.1, flats_of h2 q.2, by rw [inV_of dx q.1 h2 q.2]; exact k⟩
    · cases h
  · split at h
    · rename_i ks vs key q
      cases h
      cases dy with
      | dic l h1 h2 =>
        refine .inr ⟨_, _, rfl, .inl ⟨_, key, R.core.sub.rd h1.rd, key_of dx q, rfl⟩, ?_⟩
        rw [valD_some l h2]
        exact k
    · cases h
  · cases h
theorem q_in {K : PySem.W.Frag} : Op2 K W (rInA K false) dIn := by
  intro fr F H σ ρ n x y d v u Q R dx dy h k
  unfold dIn at h
  split at h
  · cases h
    exact q_inA R dx dy ‹_› (k F H _ R (Sub.refl _) (.bl _))
  · cases h
theorem q_ni {K : PySem.W.Frag} : Op2 K W (rInA K true) dNi := by
  intro fr F H σ ρ n x y d v u Q R dx dy h k
  unfold dNi at h
  split at h
  · cases h
    exact q_inA R dx dy ‹_› (k F H _ R (Sub.refl _) (.bl _))
  · cases h
theorem d_in (hu : X.A.units + 1 < cLine) (ha : PD X W a fa) (hb : PD X W b fb) (hm : behindInMarks .In b = false := by with_unfolding_all rfl) : PD X W (.Compare a [.In] [b] pos) (e2 dIn fa fb) := d_cmp (o_in hu) q_in ha hb hm
theorem t_ni (hu : X.A.units + 1 < cLine) (ha : PD X W a fa) (hb : PD X W b fb) (hm : behindInMarks .NotIn b = false := by with_unfolding_all rfl) : PDT X W (.Compare a [.NotIn] [b] pos) (tB (e2 dNi fa fb)) := t_cmp (o_ni hu) q_ni ha hb hm
/-! ### isinstance of an instance -/
/-- what isinstance asks of an instance's class -/
structure InsC (K : PySem.W.Frag) (C : Addr) : Prop where
  cl : Cls K C
  ha : PySem.W.findIn K (.ref C) "__class__" = some (some (.builtin "object.__class__"))
  hn : PySem.W.specialIn K (.builtin "object.__class__") "__get__" = some (some (.builtin "getset_descriptor.__get__"))
  ht : PySem.W.takesIn K (.builtin "object.__class__") = some true
  hm : PySem.W.mroIn K C (.type "object") = some true
end
end DL
end

section
set_option Elab.async false
set_option linter.all false
set_option autoImplicit false
set_option maxRecDepth 100000
set_option maxHeartbeats 1000000
namespace DL
open PySem PySem.Spec L2
section
variable {X : Cx} {W : Wd} {pos : Pos}
/-! ### {k: v for ..} -/
def dcompD (body : D → M (Option (Key × D))) : List D → List Key → List D → M (List Key × List D)
  | [], ks, vs => M.pure (ks, vs)
  | d :: ds, ks, vs => M.bind (body d) fun y => match y with
    | some p => if ks.length < sizeLine then dcompD body ds (dkKs ks p.1) (dkDs ks vs p.1 p.2) else M.opt none
    | none => dcompD body ds ks vs
def dcompB (vs : List Nat) (g : GX) (t : TX) (fk fv : EX) (ρ : Env) (d : D) : M (Option (Key × D)) := M.bind (M.opt (g d (hide (wipeD ρ vs)))) fun ρ1 => M.bind (t ρ1) fun b => match b with
  | true => M.bind (fk ρ1) fun y => M.bind (M.opt (keyD y)) fun k => M.bind (fv ρ1) fun z => M.pure (some (k, z))
  | false => M.pure none
def eDComp (vs : List Nat) (g : GX) (it : IX) (t : TX) (fk fv : EX) : EX := fun ρ => M.bind (it ρ) fun ds => M.bind (M.calm (dcompD (dcompB vs g t fk fv ρ) ds [] [])) fun r => M.pure (.dic r.1 r.2)
theorem d_tDc {vs : List Nat} {tg : TG} {g : GX} {is : List Nat} {it : IX} {t : TX} {fk fv : EX} (hg : GOk X.K W tg g is) (hv : ∀ i ∈ is, i ∈ vs) {σ : St} {H : Hp} {Q : VK} (h : tD X W (eDComp vs g it t fk fv) σ H Q) : tDc (tI X W it) tg (tTk X.K W t) (tDk X.K W fk) (tDk X.K W fv) vs σ H (fun v H1 => ∃ d u, H1 d = some u ∧ Mut (some u) ∧ ∀ od, Q v (upd H1 d (.frz od u))) := by
  obtain ⟨fr, F, ρ, n, r, n', R, e, k⟩ := h
  rcases M.bind_any e with ⟨z, e1, rfl⟩ | ⟨ds, n1, e1, h⟩
  · exact ⟨fr, F, ρ, n, .error z, n', R, e1, k⟩
  rcases M.bind_any h with ⟨z, e1, rfl⟩ | ⟨⟨zk, zv⟩, n2, e2, h2⟩
  · exact (M.calm_err e1).elim
  replace e2 := M.calm_ok e2
  obtain ⟨q1, q2⟩ := M.pure_any h2
  subst q1 q2
  clear h h2
  refine ⟨fr, F, ρ, n, .ok ds, n1, R, e1, fun F1 H1 J R1 s1 ok => fun p hp => ?_⟩
  refine ⟨fun i m H' => m = ds.length - i ∧ i ≤ ds.length ∧ ∃ F' n'' ks us dv, Rel X.K W fr F' H' σ ρ n'' ∧ Sub F1 F' ∧ F' p = none ∧ ks.length = us.length ∧ H' p = some (.dK (ks.zip us)) ∧ Dens X.K W fr.dr F' us dv ∧ dcompD (dcompB vs g t fk fv ρ) (ds.drop i) ks dv n'' = some (.ok (zk, zv), _),
    ⟨ds.length, by simp, Nat.zero_le _, F1, n1, [], [], [], ?_, Sub.refl _, R1.core.noF hp, rfl, upd_same, .nil, e2⟩, ?_⟩
  · exact R1.other (R1.core.noF hp) (R1.core.noH0 hp) (R1.core.ndr hp) (R1.noOwn hp) (sd_no hp)
  have hH0 := R1.core.noH0 hp
  have hdr := R1.core.ndr hp
  have hno := R1.noOwn hp
  rintro i m H2 ⟨rfl, hi, F2, m2, ks, us, dv, R2, s2, f2, l2, a2, d2, c2⟩
  have RI : Rel X.K W (fr.at F2 H2) F2 H2 (wipe σ vs) (hide (wipeD ρ vs)) m2 := (R2.wipe vs).inner
  by_cases hlt : i < ds.length
  · refine .inr ?_
    rw [List.drop_eq_getElem_cons hlt] at c2
    obtain ⟨y, n3, c3, hc⟩ := M.bind_ok c2
    obtain ⟨ρ1, n5, b1, hb1⟩ := M.bind_ok c3
    obtain ⟨b2, b3⟩ := M.opt_ok b1
    obtain ⟨b, n6, b4, hb2⟩ := M.bind_ok hb1
    clear hb1 b1 c3
    subst b3
    obtain ⟨g1, g2⟩ := (ok (fr.at F2 H2) F2 H2 _ _ _ i rfl RI s2).1 ds[i] (by simp [hlt])
    refine ⟨g1, fun H' => ∃ F' n'' ks us dv, Rel X.K W fr F' H' σ ρ n'' ∧ Sub F1 F' ∧ F' p = none ∧ ks.length = us.length ∧ H' p = some (.dK (ks.zip us)) ∧ Dens X.K W fr.dr F' us dv ∧ dcompD (dcompB vs g t fk fv ρ) (ds.drop (i + 1)) ks dv n'' = some (.ok (zk, zv), _), fun H' q => ⟨_, by omega, rfl, hlt, q⟩, fun x H' yl => ?_⟩
    obtain ⟨F3, R3, s3, d3⟩ := g2 x H' yl
    refine hg (fr.at F2 H2) F3 H' _ _ ρ1 _ x _ _ R3 d3 b2 fun σ3 R4 w4 => ⟨(w4 vs hv).trans (wipe_wipe σ vs), ?_⟩
    refine ⟨fr.at F2 H2, F3, ρ1, _, b, n6, R4, b4, fun F5 H5 R5 s5 => ?_⟩
    cases b with
    | true =>
      rw [if_pos rfl]
      obtain ⟨yk, n7, b5, hb3⟩ := M.bind_ok hb2
      obtain ⟨kk, n8, b6, hb4⟩ := M.bind_ok hb3
      obtain ⟨b7, b8⟩ := M.opt_ok b6
      obtain ⟨z, n9, b9, hb5⟩ := M.bind_ok hb4
      obtain ⟨b10, b11⟩ := M.pure_ok hb5
      clear hb2 hb3 hb4 hb5 b6
      subst b8 b10 b11
      refine ⟨fr.at F2 H2, F5, ρ1, n6, yk, _, R5, b5, fun F6 H6 v R6 s6 d6 => ⟨fr.at F2 H2, F6, ρ1, _, z, _, R6, b9, fun F7 H7 u R7 s7 d7 => ?_⟩⟩
      have hc : (if ks.length < sizeLine then dcompD (dcompB vs g t fk fv ρ) (ds.drop (i + 1)) (dkKs ks kk) (dkDs ks dv kk z) else M.opt none) n3 = _ := hc
      split at hc
      · rename_i hz
        have a7 : H7 p = some (.dK (ks.zip us)) := R7.core.base p _ (mask_of a2) hdr fun z => z
        have f7 : F7 p = none := R7.core.new p _ (mask_of a2) f2
        have s27 : Sub F2 F7 := R7.core.f0
        have hk := key_of d6 b7
        subst hk
        refine ⟨_, kk, rfl, a7, by rw [List.length_zip, l2, Nat.min_self, ← l2]; exact hz, F7, _, dkKs ks kk, dkDs ks us kk u, dkDs ks dv kk z, ?_, s2.trans s27, f7, put_len l2, ?_, dkDs_dens d7 (d2.mono s27 fun _ z => z), hc⟩
        · exact (R2.back R7.core).other f7 hH0 hdr hno (sd_of a7)
        · rw [upd_same, put_zip l2]
      · cases (M.opt_ok hc).1
    | false =>
      rw [if_neg Bool.false_ne_true]
      obtain ⟨b6, b7⟩ := M.pure_ok hb2
      clear hb2
      subst b6 b7
      have a6 : H5 p = some (.dK (ks.zip us)) := R5.core.base p _ (mask_of a2) hdr fun z => z
      have f6 : F5 p = none := R5.core.new p _ (mask_of a2) f2
      have s26 : Sub F2 F5 := R5.core.f0
      exact ⟨F5, _, ks, us, dv, R2.back R5.core, s2.trans s26, f6, l2, a6, d2.mono s26 fun _ z => z, hc⟩
  · have ei : i = ds.length := by omega
    refine .inl ⟨(ok (fr.at F2 H2) F2 H2 _ _ _ i rfl RI s2).2 ei, ?_⟩
    rw [ei, List.drop_length] at c2
    obtain ⟨a1, a3⟩ := M.pure_ok c2
    cases a1
    subst a3
    refine ⟨p, _, a2, trivial, fun od => ?_⟩
    obtain ⟨u1, R7⟩ := (R2.other (o := .frz od (.dK (zk.zip us))) f2 hH0 hdr hno (sd_of a2)).addF upd_same f2 hH0 hdr hno
    exact k _ _ _ R7 ((s1.trans s2).trans u1) (.dic l2 ⟨od, upd_same⟩ (d2.mono u1 fun _ z => z))
/-! ### self.a, self.b, .. = e -/
/-! ### a new list for oneself -/
end
end DL
end

section
set_option Elab.async false
set_option linter.all false
set_option autoImplicit false
set_option maxRecDepth 100000
set_option maxHeartbeats 1000000
namespace DL
open PySem PySem.Spec L2
/-! ### bool(x) -/
section
variable {X : Cx} {W : Wd} {pos : Pos}
/-! ### try: g except C as n: return isinstance(n, C2) -/
end
end DL
end

section
set_option Elab.async false
set_option linter.all false
set_option autoImplicit false
set_option maxRecDepth 100000
set_option maxHeartbeats 1000000
namespace DL
open PySem PySem.Spec L2
theorem u1 {X : Cx} (h : X.A.units + 64 < cLine) : X.A.units + 1 < cLine := by omega
section
variable {X : Cx} {W : Wd} {c k : Nat} {pos : Pos} {a b : Expr} {fa fb : EX} {fx : FX}
end
end DL
end

section
set_option Elab.async false
set_option linter.all false
set_option autoImplicit false
set_option maxRecDepth 100000
set_option maxHeartbeats 1000000
namespace DL
open PySem PySem.Spec L2 PyProof.Rows
section
variable {X : Cx} {W : Wd}
/-- y = {k: v for ..}, one line -/
theorem ps_setDcD {i : Nat} {y : Str} {py : Pos} {kx vx tg iter : Expr} {ifs : List Expr} {scope : Scope} {own : List (Str × Nat)} {pos spos : Pos} {wi : TI} {g : TG} {tt : TT} {tk tv : TE}
    (hc : X.calm = true) (hN : X.N.Nodup) (hy : X.N[i]? = some y) (hyl : X.env.scope.names.lookup y = some .local)
    (hsw : swapsWith (.DictComp kx vx [⟨tg, iter, ifs, 0⟩] scope pos) (some (.Name y py)) spos.line X.env = pure true)
    (hi : PI X tg iter wi) (ok : BlkOk X.N X.env.scope scope own)
    (hg : ∀ (s : Shared) (H : Hp) (C : Addr) (cl : List (Str × Addr)) (fp : List Addr),
      PG (X.blk s H scope (compEnvC scope cl C X.env) fp) tg g)
    (ht : ∀ (s : Shared) (H : Hp) (C : Addr) (cl : List (Str × Addr)) (fp : List Addr),
      PTs (X.blk s H scope (compEnvC scope cl C X.env) fp) ifs tt)
    (hk : ∀ (s : Shared) (H : Hp) (C : Addr) (cl : List (Str × Addr)) (fp : List Addr),
      PE (X.blk s H scope (compEnvC scope cl C X.env) fp) kx tk)
    (he : ∀ (s : Shared) (H : Hp) (C : Addr) (cl : List (Str × Addr)) (fp : List Addr),
      PE (X.blk s H scope (compEnvC scope cl C X.env) fp) vx tv)
    (hs : ∀ x, foldedSetIterable iter X.env x = pure x) :
    PS X (.Assign [.Name y py] (.DictComp kx vx [⟨tg, iter, ifs, 0⟩] scope pos) spos) (tAsg (tDc wi g tt tk tv (own.map (·.2))) (gName i)) := by
  constructor
  intro pins s σ H D I h
  rw [exec_Assign_Name_used _ _ _ _ hsw]
  refine wpAny_bind (wpAny_standAt (wpAny_bind ?_))
  have h9 : tDc wi g tt tk tv (own.map (·.2)) σ H (fun x H1 => gName i x σ H1 D.nx) := h
  have core := dc_core (pos := pos) (pos' := firstIterPos [⟨tg, iter, ifs, 0⟩] pos) (use := some (assign (.Name y py) X.env)) (Qf := fun _ s' => SP X pins D .next s') hc hN I hi ok hg ht hk he hs h9 ?_
  · exact wpAny_bind (thn core fun _ s' hq => wpAny_pure (wpAny_pure hq))
  intro L C s' m H' I' q hn f
  show wpAny _ _ (assign (.Name y py) X.env (.ref L)) _ _ _
  refine wpAny_assign_Name (store_ok2 (v := V.ref L) I' hN hy (.inl hyl) rfl ?_ (.inr hyl))
  rintro s2 I2 ⟨a, sb, ha⟩
  obtain ⟨f0, f1, f2, f3, f4, f5⟩ := f
  have hne : C ≠ a := by
    rcases ha with z | z
    · subst z; exact f1
    · intro e; exact f4 y a z e.symm
  refine ⟨m, hn.sameBut sb hne, fun h3 sb3 => ⟨_, H', ?_, q⟩⟩
  exact I2.turned (t' := s2.toks) (fun b o hb e => (sb3.2 b hb).trans e) f0 f1 f3 f4 f5
theorem sw_trueD {kx vx : Expr} {gs : List Comprehension} {scope : Scope} {pos py : Pos} {y : Str} {l : Nat} {env : PySem.Env} (hk : env.scope.kind = .function) (hy : env.scope.names.lookup y = some .local) (hl : (py.line == pos.line) = true)
    (ha : (scope.names.any fun (n, k) => n == y && (k == .local || k == .cell)) = false) : swapsWith (.DictComp kx vx gs scope pos) (some (.Name y py)) l env = pure true := by
  have e1 : env.kindOf y = some .local := hy
  have e2 : env.blockKind = .function := by
    unfold PySem.Env.blockKind
    rw [hk]; rfl
  unfold swapsWith
  simp only [e2, e1, ha, Expr.pos, hl]
  rfl
theorem S_setDComp {vs : List Nat} {i : Nat} {y : Str} {py : Pos} {kx vx tg iter : Expr} {ifs : List Expr} {scope : Scope} {own : List (Str × Nat)} {pos spos : Pos} {t : TG} {g : GX} {is : List Nat} {it : IX} {tt : TX} {fk fv : EX} (hc : X.calm = true) (hN : X.N.Nodup) (hy : X.N[i]? = some y) (hyl : X.env.scope.names.lookup y = some .local)
    (hsw : swapsWith (.DictComp kx vx [⟨tg, iter, ifs, 0⟩] scope pos) (some (.Name y py)) spos.line X.env = pure true) (hi : PDI X W tg iter it) (ok : BlkOk X.N X.env.scope scope own)
    (hg : ∀ (s : Shared) (H : Hp) (C : Addr) (cl : List (Str × Addr)) (fp : List Addr), PG (X.blk s H scope (compEnvC scope cl C X.env) fp) tg t) (hq : GOk X.K W t g is) (hv : ∀ i ∈ is, i ∈ vs)
    (ht : ∀ (s : Shared) (H : Hp) (C : Addr) (cl : List (Str × Addr)) (fp : List Addr), PTs (X.blk s H scope (compEnvC scope cl C X.env) fp) ifs (tT (X.blk s H scope (compEnvC scope cl C X.env) fp) W tt))
    (hk : ∀ (s : Shared) (H : Hp) (C : Addr) (cl : List (Str × Addr)) (fp : List Addr), PD (X.blk s H scope (compEnvC scope cl C X.env) fp) W kx fk)
    (he : ∀ (s : Shared) (H : Hp) (C : Addr) (cl : List (Str × Addr)) (fp : List Addr), PD (X.blk s H scope (compEnvC scope cl C X.env) fp) W vx fv) (hs : ∀ x, foldedSetIterable iter X.env x = pure x := by intro _; rfl) (hvs : own.map (·.2) = vs := by rfl) :
    PDS X W (.Assign [.Name y py] (.DictComp kx vx [⟨tg, iter, ifs, 0⟩] scope pos) spos) (sAsg (gV i) (eDComp vs g it tt fk fv)) := by
  subst hvs
  refine imp_S (ps_post (ps_setDcD (tt := tTk X.K W tt) (tk := tDk X.K W fk) (tv := tDk X.K W fv) hc hN hy hyl hsw hi ok hg (fun s H C cl fp => tsk (ht s H C cl fp)) (fun s H C cl fp => dk (hk s H C cl fp)) (fun s H C cl fp => dk (he s H C cl fp)) hs)) fun E σ H ⟨fr, F, ρ, n, r, n', R, e, k⟩ => ?_
  rcases r with z | o
  · refine d_tDc (Q := fun v H1 => E.nx (σ.set i (some v)) H1) hq hv (R.dE e (KS.x k) fun _ _ _ _ _ _ h _ _ _ => ?_)
    rcases M.bind_err h with h | ⟨_, _, _, h⟩
    · exact (M.opt_err h).elim
    · exact (M.pure_err h).elim
  obtain ⟨x, n1, e1, ha⟩ := M.bind_ok e
  obtain ⟨ρ', n2, e2, h⟩ := M.bind_ok ha
  obtain ⟨h1, h2⟩ := M.pure_ok h
  obtain ⟨h3, h4⟩ := M.opt_ok e2
  clear ha h
  subst h4
  subst h1 h2
  refine d_tDc (Q := fun v H1 => E.nx (σ.set i (some v)) H1) hq hv ⟨fr, F, ρ, n, .ok x, _, R, e1, fun F1 H1 v R1 s1 d1 => ?_⟩
  cases h3
  exact k F1 H1 _ (R1.set d1) s1
end
end DL
end

section
set_option Elab.async false
set_option linter.all false
set_option autoImplicit false
set_option maxRecDepth 100000
set_option maxHeartbeats 1000000
/-! a lambda without parameters, handed to a def that tells whether it is refused -/
namespace DL
open PySem PySem.Spec L2
end DL
end

section
set_option Elab.async false
set_option linter.all false
set_option autoImplicit false
set_option maxRecDepth 100000
set_option maxHeartbeats 1000000
/-! xs += ys; min, max of ints; how many different ints -/
namespace DL
open PySem PySem.Spec L2
section
variable {X : Cx} {W : Wd}
end
end DL
end

section
set_option Elab.async false
set_option linter.all false
set_option autoImplicit false
set_option maxRecDepth 100000
set_option maxHeartbeats 1000000
/-! a def that tells whether a deed is refused, as a fact; the end of a law with lambdas -/
namespace DL
open PySem PySem.Spec L2
open PyProof.Rows (envOfC)
structure LamF (K : PySem.W.Frag) (mg : Str → Option Value) (x a ex : Str) (cx : Value) : Prop where
  ex : ∃ (g : Addr) (pg : Arguments) (bg : List Stmt) (sg : Scope) (dV kV doc pm cdv ct oc : Value) (an od : Option Addr) (osl : Array (Option Value)) (Ng : List Str) (p1 p2 p3 p4 p5 p6 p7 p8 p9 pa : Pos) (k1 k2 : Nat),
    mg x = some (.ref g) ∧ PySem.W.keepIn K (.ref g) = true ∧ K.lookup g = some ⟨oc, od, .func (PySem.W.fnOf x x pg bg sg dV kV doc pm an cdv ct), osl⟩ ∧ PySem.W.codeIn K cdv x = true ∧ Binds K (PySem.W.fnOf x x pg bg sg dV kV doc pm an cdv ct) [a] [] ∧ FnScope Ng [a] sg ∧ Ng[0]? = some a ∧ Vis sg a ∧
    bg = [.Try [.Expr (.Call (.Name a p1) [] [] p2) p3] [.ExceptHandler (some (.Name ex p4)) none [.Return (some (.Constant (.bool true) k1 p5)) p6] p7] [] [] p8, .Return (some (.Constant (.bool false) k2 p9)) pa] ∧ (envOfC x sg 0 0 .none).kindOf ex = some .globalImplicit ∧ mg ex = some cx ∧ (ex == ("__debug__" : Str)) = false ∧ (x == ("__debug__" : Str)) = false ∧ (a == ("__debug__" : Str)) = false ∧ (a == ("__classdict__" : Str)) = false
end DL
end

section
set_option Elab.async false
set_option linter.all false
set_option autoImplicit false
set_option maxRecDepth 100000
set_option maxHeartbeats 1000000
/-! min(rows, key=lambda row: row[0]) -/
namespace DL
open PySem PySem.Spec L2
open PyProof.Rows
/-- the scope of a lambda with one parameter that reads nothing else -/
structure LamP (row : Str) (scope : Scope) : Prop where
  kind : scope.kind = .function
  co : scope.isCoroutine = false
  gen : scope.isGenerator = false
  nocell : ∀ y ∈ scope.names, y.2 ≠ .cell
  nofree : ∀ y ∈ scope.names, y.2 ≠ .free
  loc : scope.names.lookup row = some .local
  ndb : (row == ("__debug__" : Str)) = false
section
variable {prog : Program} {w : World} {A : Around} {E : Value → Shared → Prop} {s : Shared}
end
/-- what stands in the heap besides the frame and the base -/
def rest (base h : Heap) (L : Addr) : List (Addr × Obj) := (List.range h.objs.size).filterMap fun b => if b = L then none else match base.get? b with
  | some _ => none
  | none => (match h.get? b with
    | some o => some (b, o)
    | none => none)
theorem rest_of {base h : Heap} {L : Addr} {p : Addr × Obj} (hp : p ∈ rest base h L) : h.get? p.1 = some p.2 ∧ p.1 ≠ L ∧ base.get? p.1 = none := by
  unfold rest at hp
  rw [List.mem_filterMap] at hp
  obtain ⟨b, _, e⟩ := hp
  split at e
  · cases e
  · rename_i hL
    split at e
    · cases e
    · rename_i hb
      split at e
      · rename_i o h1
        cases e
        exact ⟨h1, hL, hb⟩
      · cases e
section
variable {X : Cx}
end
/-! ### the data layer's rule -/
end DL
end

section
set_option Elab.async false
set_option linter.all false
set_option autoImplicit false
set_option maxRecDepth 100000
set_option maxHeartbeats 1000000
/-! dicts with tuples as keys; an own dict lent to an expression; lists for oneself; deep in; index -/
namespace DL
open PySem PySem.Spec L2
/-! ### no dict within -/
mutual
def ndD : D → Bool
  | .tup xs => ndDs xs
  | .lst xs => ndDs xs
  | .dic _ _ => false
  | .dit _ _ => false
  | .obj _ _ vs => ndDs vs
  | .non => true
  | .bl _ => true
  | .int _ => true
  | .str _ => true
  | .drw => true
  | .scr => true
  | .rng _ _ => true
  | .odd _ d => ndD d
def ndDs : List D → Bool
  | [] => true
  | d :: ds => ndD d && ndDs ds
end
/-- the heap without a -/
def cutH (F : Hp) (a : Addr) : Hp := fun b => if b = a then none else F b
theorem cutH_ne {F : Hp} {a b : Addr} (h : b ≠ a) : cutH F a b = F b := if_neg h
def isD0 (o : HO) : Prop := (∃ kvs, o = .dK kvs) ∨ ∃ kvs, o = .dT kvs
/-- a locked dict -/
def isDic (o : HO) : Prop := ∃ x u, o = .frz x u ∧ isD0 u
section
variable {K : PySem.W.Frag} {W : Wd} {dr : Option Addr} {F : Hp} {a : Addr} {o : HO}
theorem cut_get (ha : F a = some o) (hd : isDic o) {b : Addr} {u : HO} (h : F b = some u) (nu : ¬ isDic u) : cutH F a b = some u := by
  rw [cutH_ne]
  · exact h
  · intro z
    rw [z, ha] at h
    cases h
    exact nu hd
theorem cut_rd (ha : F a = some o) (hd : isDic o) {b : Addr} {u : HO} (h : Rd F b u) (nu : ¬ isDic u ∧ ¬ isD0 u) : Rd (cutH F a) b u := by
  rcases h with h | ⟨x, h⟩
  · exact .inl (cut_get ha hd h nu.1)
  · refine .inr ⟨x, cut_get ha hd h ?_⟩
    rintro ⟨y, v, z, q⟩
    cases z
    exact nu.2 q
theorem nd_tup (xs : List V) : ¬ isDic (.tup xs) ∧ ¬ isD0 (.tup xs) := ⟨fun ⟨_, _, z, _⟩ => by (cases z), by rintro (⟨_, z⟩ | ⟨_, z⟩) <;> cases z⟩
theorem nd_lst (xs : List V) : ¬ isDic (.lst xs) ∧ ¬ isD0 (.lst xs) := ⟨fun ⟨_, _, z, _⟩ => by (cases z), by rintro (⟨_, z⟩ | ⟨_, z⟩) <;> cases z⟩
theorem nd_ins {c d : Addr} {xs} : ¬ isDic (.ins c d xs) := fun ⟨_, _, z, _⟩ => by (cases z)
mutual
theorem den_cut (ha : F a = some o) (hd : isDic o) : ∀ {v : V} {d : D}, Den K W dr F v d → ndD d = true → Den K W dr (cutH F a) v d
  | _, _, .non, _ => .non
  | _, _, .bl b, _ => .bl b
  | _, _, .int b, _ => .int b
  | _, _, .str b, _ => .str b
  | _, _, .tup h r, e => .tup (h.imp (fun q => cut_rd ha hd q (nd_tup _)) id) (dens_cut ha hd r (by unfold ndD at e; exact e))
  | _, _, .lst h r, e => .lst (cut_get ha hd h (nd_lst _).1) (dens_cut ha hd r (by unfold ndD at e; exact e))
  | _, _, .scr h, _ => .scr (h.imp (fun q => cut_rd ha hd q (nd_lst _)) id)
  | _, _, .rng h, _ => .rng (cut_get ha hd h fun ⟨_, _, z, _⟩ => by (cases z))
  | _, _, .odd h r, e => .odd (h.imp fun x q => cut_get ha hd q fun ⟨_, _, z, w⟩ => by (cases z; rcases w with ⟨_, w⟩ | ⟨_, w⟩ <;> cases w)) (den_cut ha hd r (by unfold ndD at e; exact e))
  | _, _, .dic _ _ _, e => by simp [ndD] at e
  | _, _, .dit _ _ _, e => by simp [ndD] at e
  | _, _, .obj l h r, e => .obj l (cut_get ha hd h nd_ins) (dens_cut ha hd r (by unfold ndD at e; exact e))
  | _, _, .drw h, _ => .drw h
theorem dens_cut (ha : F a = some o) (hd : isDic o) : ∀ {vs : List V} {ds : List D}, Dens K W dr F vs ds → ndDs ds = true → Dens K W dr (cutH F a) vs ds
  | _, _, .nil, _ => .nil
  | _, _, .cons h r, e => by
    unfold ndDs at e
    rw [Bool.and_eq_true] at e
    exact .cons (den_cut ha hd h e.1) (dens_cut ha hd r e.2)
end
end
section
variable {X : Cx} {W : Wd}
end
end DL
end

section
set_option Elab.async false
set_option linter.all false
set_option autoImplicit false
set_option maxRecDepth 100000
set_option maxHeartbeats 1000000
namespace DL
open PySem PySem.Spec L2
section
variable {X : Cx} {W : Wd} {a b : Expr} {fa fb : EX} {pos : Pos}
/-! ### a tuple for a key -/
end
end DL
end

section
set_option Elab.async false
set_option linter.all false
set_option autoImplicit false
set_option maxRecDepth 100000
set_option maxHeartbeats 1000000
/-! lists of one's own out of comprehensions and sums; deep in; index -/
namespace DL
open PySem PySem.Spec L2
section
variable {X : Cx} {W : Wd}
/-! ### in, of lists of anything -/
/-! ### the place in a list of numbers -/
end
/-! ### a def with a lambda in it -/
open PyProof.Rows (envOfC)
section
variable {P : Program} {w : World} {K : PySem.W.Frag} {mg : Str → Option Value} {base : Heap} {W : Wd}
end
end DL
end

section
set_option Elab.async false
set_option linter.all false
set_option autoImplicit false
set_option maxRecDepth 100000
set_option maxHeartbeats 1000000
/-! own lists by place; extend; lists times a number -/
namespace DL
open PySem PySem.Spec L2
section
variable {X : Cx} {W : Wd} {a b : Expr} {fa fb : EX} {pos : Pos}
/-! ### x[k], x one's own list -/
/-! ### x[k] = v, x one's own list -/
/-! ### x.extend(e), x one's own list -/
/-! ### a list times a number -/
end
end DL
end

section
set_option Elab.async false
set_option linter.all false
set_option autoImplicit false
set_option maxRecDepth 100000
set_option maxHeartbeats 1000000
/-! what is never reached; products of one's own; chains of three -/
namespace DL
open PySem PySem.Spec L2
section
variable {X : Cx} {W : Wd}
/-! ### a <= b <= c <= d -/
open PyProof PyProof.Rows in
end
end DL
end

section
set_option Elab.async false
set_option linter.all false
set_option autoImplicit false
set_option maxRecDepth 100000
set_option maxHeartbeats 1000000
/-! l[i], l[j] = a, b -/
namespace DL
open PySem PySem.Spec L2
section
variable {X : Cx} {W : Wd}
def two : D → Option (D × D)
  | .tup [a, b] => some (a, b)
  | _ => none
end
end DL
end

section
set_option Elab.async false
set_option linter.all false
set_option autoImplicit false
set_option maxRecDepth 100000
set_option maxHeartbeats 1000000
/-! enumerate(v) over a list, a tuple -/
namespace RZ
open PySem PySem.Spec PyProof.Rows PyProof L2
set_option maxHeartbeats 1000000 in
section
variable {prog : Program} {w : World} {A : Around} {E : Value → Shared → Prop} {s : Shared}
end
end RZ
namespace RZ
open PySem PySem.Spec PyProof.Rows PyProof L2
end RZ
namespace RZ
open PySem PySem.Spec PyProof.Rows PyProof L2
end RZ
namespace DL
open PySem PySem.Spec L2 RZ
section
variable {X : Cx} {W : Wd}
end
end DL
end

section
set_option Elab.async false
set_option linter.all false
set_option autoImplicit false
set_option maxRecDepth 100000
set_option maxHeartbeats 1000000
/-! x = list(e), x one's own -/
namespace DL
open PySem PySem.Spec L2
section
variable {X : Cx} {W : Wd}
end
end DL
end

section
set_option Elab.async false
set_option linter.all false
set_option autoImplicit false
set_option maxRecDepth 100000
set_option maxHeartbeats 4000000
/-! sorted(set(e)), e a list of whole numbers -/
namespace RZ
open PySem PySem.Spec PyProof.Rows L2
/-- the set as it is made, with nothing in it -/
abbrev eS (w : World) : Obj := { cls := .type "set", dict := none, data := .set #[] 0 (.fresh 0 0 (!w.params.followText "set-order")) }
section
variable {P : Program} {w : World} {A : Around} {E : Value → Shared → Prop} {s : Shared}
set_option maxRecDepth 100000 in
end
end RZ
namespace RZ
open PySem PySem.Spec PyProof.Rows L2
end RZ
namespace DL
open PySem PySem.Spec L2
section
variable {X : Cx} {W : Wd}
end
end DL
end

section
set_option Elab.async false
set_option linter.all false
set_option autoImplicit false
set_option maxRecDepth 100000
set_option maxHeartbeats 1000000
/-! one meaning where it is told, else another: for a method that several classes have -/
namespace DL
open PySem PySem.Spec L2
section
variable {X : Cx} {W : Wd}
end
end DL
end

section
set_option Elab.async false
set_option linter.all false
set_option autoImplicit false
set_option maxRecDepth 100000
set_option maxHeartbeats 1000000
/-! an object of one's own with a list of its own: methods that change it -/
namespace DL
open PySem PySem.Spec L2
open PyProof.Rows (envOfC)
section
variable {K : PySem.W.Frag} {W : Wd} {fr : Fr} {F H H' : Hp} {σ : St} {ρ : Env} {n : Int}
end
section
variable {X : Cx} {W : Wd}
/-! ### fields -/
end
end DL
end

section
set_option Elab.async false
set_option linter.all false
set_option autoImplicit false
set_option maxRecDepth 100000
set_option maxHeartbeats 1000000
/-! methods that change an object with a list of its own; its making -/
namespace DL
open PySem PySem.Spec L2
open PyProof.Rows (envOfC)
abbrev FXM := D → List D → M D
section
variable {P : Program} {w : World} {K : PySem.W.Frag} {mg : Str → Option Value} {base : Heap} {W : Wd}
end
section
variable {K : PySem.W.Frag} {W : Wd} {fr : Fr} {F F' H H' : Hp} {σ σ' : St} {ρ : Env} {n n' : Int}
end
/-! ### a call that changes the object -/
section
variable {X : Cx} {W : Wd}
end
/-! ### self.f = [], and what follows -/
section
variable {K : PySem.W.Frag} {W : Wd} {fr : Fr} {F F' H H' : Hp} {σ σ' : St} {r r' : Env} {n n' : Int}
end
section
variable {X : Cx} {W : Wd}
end
end DL
end

section
set_option Elab.async false
set_option linter.all false
set_option autoImplicit false
set_option maxRecDepth 100000
set_option maxHeartbeats 1000000
/-! tuple(range(..)), list(range(..)) -/
namespace DL
open PySem PySem.Spec L2
def rgz (i j : Int) : Bool := decide (-1000000 ≤ i) && decide (i ≤ 1000000) && decide (-1000000 ≤ j) && decide (j ≤ 1000000)
theorem rgz_ok {i j : Int} (h : rgz i j = true) : RgOk i j := by
  unfold rgz at h
  simp only [Bool.and_eq_true, decide_eq_true_eq] at h
  obtain ⟨⟨⟨h1, h2⟩, h3⟩, h4⟩ := h
  refine ⟨?_, ?_, ?_, ?_, ?_⟩ <;> omega
theorem dens_rg {K : PySem.W.Frag} {W : Wd} {dr : Option Addr} {F : Hp} (i j : Int) : Dens K W dr F (rgV i j) (rngD i j) := by
  unfold rgV rngD
  induction List.range (j - i).toNat with
  | nil => exact .nil
  | cons k r ih => exact .cons (.int _) ih
def dLstR2 : D → D → Option D
  | .int i, .int j => if rgz i j then some (.lst (rngD i j)) else none
  | _, _ => none
section
variable {X : Cx} {W : Wd}
end
end DL
end

section
set_option Elab.async false
set_option linter.all false
set_option autoImplicit false
set_option maxRecDepth 100000
set_option maxHeartbeats 400000
/-! a, b = [], e and a, b = e, [] and a, b = [], [..] -/
namespace DL
open PySem PySem.Spec L2
section
variable {X : Cx} {W : Wd}
end
end DL
end

section
set_option Elab.async false
set_option linter.all false
set_option autoImplicit false
set_option maxRecDepth 100000
set_option maxHeartbeats 1000000
/-! an own list, lent to an expression that gives a flat thing -/
namespace DL
open PySem PySem.Spec L2
section
variable {X : Cx} {W : Wd}
end
end DL
end

section
set_option Elab.async false
set_option linter.all false
set_option autoImplicit false
set_option maxRecDepth 100000
set_option maxHeartbeats 1000000
/-! min of a list of data that are alike -/
namespace DL
open PySem PySem.Spec L2
open PySem.W (alike alikeAll dataLt AlikeAll)
def best (ps : List PyData) : Nat := argBest (fun i j => dataLt (ps.getD i .none) (ps.getD j .none)) (ps.length - 1)
section
variable {X : Cx}
end
mutual
def alkB : PyData → Bool
  | .none => false
  | _ => true
end
end DL
end

section
set_option Elab.async false
set_option linter.all false
set_option autoImplicit false
set_option maxRecDepth 100000
set_option maxHeartbeats 400000
/-! x % j and x // j, j of any sign -/
namespace DL
open PySem PySem.Spec L2
section
variable {X : Cx} {W : Wd}
end
end DL
end

section
set_option Elab.async false
set_option linter.all false
set_option autoImplicit false
set_option maxRecDepth 100000
set_option maxHeartbeats 1000000
/-! bodies of a try with several statements that may raise: an error comes with the slots at which it was raised -/
namespace DL
open PySem PySem.Spec L2
abbrev BX := DL.Env → Int → Option (Sum Out (Xc × DL.Env) × Int)
def BxK (X : Cx) (W : Wd) (fr : Fr) (F : Hp) (E : Ends) (n : Int) : Sum Out (Xc × DL.Env) → Prop
  | .inl o => OutK X.K W fr F E o n
  | .inr (z, ρ) => ∀ F' H' σ cls d, Rel X.K W fr F' H' σ ρ n → Sub F F' → XDen X.K W fr.dr F' H' z cls d → Acc W.md X cls d σ H'
theorem BxK.mono {X : Cx} {W : Wd} {fr : Fr} {F F1 : Hp} {E : Ends} {n : Int} (s : Sub F F1) : ∀ {r : Sum Out (Xc × DL.Env)}, BxK X W fr F E n r → BxK X W fr F1 E n r
  | .inl _, k => OutK.mono s k
  | .inr (_, _), k => fun F' H' σ cls d R q x => k F' H' σ cls d R (s.trans q) x
section
variable {X : Cx} {W : Wd}
end
end DL
end

section
set_option Elab.async false
set_option linter.all false
set_option autoImplicit false
set_option maxRecDepth 100000
set_option maxHeartbeats 1000000
/-! [e for x in a for y in b] -/
namespace DL
open PySem PySem.Spec L2
section
variable {X : Cx} {W : Wd}
end
end DL
end

section
set_option Elab.async false
set_option linter.all false
set_option autoImplicit false
set_option maxRecDepth 100000
set_option maxHeartbeats 1000000
/-! {k: v, ..} with texts and numbers as keys; tuples of a module by their names -/
namespace DL
open PySem PySem.Spec L2
def dispK : List (EX × EX) → DL.Env → M (List (Key × D))
  | [], _ => M.pure []
  | p :: r, ρ => M.bind (M.calm (p.1 ρ)) fun k => M.bind (M.calm (p.2 ρ)) fun v => M.bind (M.opt (keyD k)) fun key => M.bind (dispK r ρ) fun rest => M.pure ((key, v) :: rest)
theorem dispK_calm : ∀ {ps : List (EX × EX)} {ρ : DL.Env} {n n' : Int} {z : Xc}, dispK ps ρ n = some (.error z, n') → False
  | [], ρ, n, n', z, e => (M.pure_err e).elim
  | p :: ps, ρ, n, n', z, e => by
    rcases M.bind_err e with e2 | ⟨x, n1, e2, h2⟩
    · exact (M.calm_err e2).elim
    rcases M.bind_err h2 with e3 | ⟨y, n2, e3, h3⟩
    · exact (M.calm_err e3).elim
    rcases M.bind_err h3 with e4 | ⟨key, n3, e4, h4⟩
    · exact (M.opt_err e4).elim
    rcases M.bind_err h4 with e5 | ⟨rest, n4, e5, h5⟩
    · exact dispK_calm e5
    · exact (M.pure_err h5).elim
def putAll {α : Type} : List Key → List α → List (Key × α) → List Key × List α
  | ks, ds, [] => (ks, ds)
  | ks, ds, q :: r => putAll (dkKs ks q.1) (dkDs ks ds q.1 q.2) r
def mkDic (kvs : List (Key × D)) : D := .dic (putAll [] [] kvs).1 (putAll [] [] kvs).2
def eDisp (ps : List (EX × EX)) : EX := fun ρ => M.bind (dispK ps (hide ρ)) fun kvs => M.opt (if kvs.length ≤ 15 then some (mkDic kvs) else none)
def trsOf (K : PySem.W.Frag) (W : Wd) (ps : List (EX × EX)) : List (TE × TE) := ps.map fun p => (tDk K W p.1, tDk K W p.2)
section
variable {K : PySem.W.Frag} {W : Wd} {dr : Option Addr} {F : Hp}
theorem merge_putAll : ∀ {kvs : List (Key × D)} {us : List V} {ks : List Key} {vs : List V} {ds : List D}, us.length = kvs.length → Dens K W dr F us (kvs.map (·.2)) → ks.length = vs.length → Dens K W dr F vs ds →
    ∃ vs', (putAll ks ds kvs).1.length = vs'.length ∧ mergeK (ks.zip vs) ((kvs.map (·.1)).zip us) = (putAll ks ds kvs).1.zip vs' ∧ Dens K W dr F vs' (putAll ks ds kvs).2
  | [], us, ks, vs, ds, _, _, l, d => ⟨vs, l, by simp [mergeK, putAll], d⟩
  | q :: kvs, us, ks, vs, ds, hl, hd, l, d => by
    cases hd with
    | @cons u us' _ _ h1 h2 =>
      obtain ⟨vs', e1, e2, e3⟩ := merge_putAll (kvs := kvs) (us := us') (ks := dkKs ks q.1) (vs := dkDs ks vs q.1 u) (ds := dkDs ks ds q.1 q.2) (by simpa using hl) h2 (put_len l) (dkDs_dens h1 d)
      refine ⟨vs', e1, ?_, e3⟩
      show mergeK (putK (ks.zip vs) q.1 u) ((kvs.map (·.1)).zip us') = _
      rw [put_zip l]
      exact e2
end
theorem pairs_ok {K : PySem.W.Frag} {W : Wd} {fr : Fr} {σ : St} {ρ : DL.Env} : ∀ {ps : List (EX × EX)} {F H : Hp} {n n' : Int} {kvs : List (Key × D)} {Q : List (V × V) → Hp → Prop}, Rel K W fr F H σ ρ n → dispK ps ρ n = some (.ok kvs, n') →
    (∀ F' H' us, Rel K W fr F' H' σ ρ n' → Sub F F' → us.length = kvs.length → Dens K W fr.dr F' us (kvs.map (·.2)) → Q (((kvs.map (·.1)).zip us).map fun kv => (kV kv.1, kv.2)) H') → tPairs (trsOf K W ps) σ H Q
  | [], F, H, n, n', kvs, Q, R, e, k => by
    obtain ⟨e1, e2⟩ := M.pure_ok e
    subst e1 e2
    exact k F H [] R (Sub.refl _) rfl .nil
  | p :: ps, F, H, n, n', kvs, Q, R, e, k => by
    obtain ⟨x, n1, e1, h1⟩ := M.bind_ok e
    obtain ⟨y, n2, e2, h2⟩ := M.bind_ok h1
    obtain ⟨key, n3, e3, h3⟩ := M.bind_ok h2
    obtain ⟨rest, n4, e4, h4⟩ := M.bind_ok h3
    obtain ⟨e5, e6⟩ := M.pure_ok h4
    obtain ⟨e7, e8⟩ := M.opt_ok e3
    clear h1 h2 h3 h4 e3
    subst e5 e6 e8
    refine ⟨fr, F, ρ, n, x, n1, R, M.calm_ok e1, fun F1 H1 v1 R1 s1 d1 => ?_⟩
    refine ⟨fr, F1, ρ, n1, y, n3, R1, M.calm_ok e2, fun F2 H2 v2 R2 s2 d2 => ?_⟩
    refine pairs_ok (ps := ps) R2 e4 fun F3 H3 us R3 s3 hl d3 => ?_
    have hk := key_of d1 e7
    subst hk
    exact k F3 H3 (v2 :: us) R3 ((s1.trans s2).trans s3) (by simp [hl]) (.cons (d2.mono s3 fun _ z => z) d3)
section
variable {X : Cx} {W : Wd}
theorem pp_cons {pos : Pos} {k v : Expr} {ks : List (Option Expr)} {vs : List Expr} {fk fv : EX} {ps : List (EX × EX)} (hk : PD X W k fk) (hv : PD X W v fv) (hr : PPs X pos ks vs (trsOf X.K W ps)) : PPs X pos (some k :: ks) (v :: vs) (trsOf X.K W ((fk, fv) :: ps)) := pps_cons (dk hk) (dk hv) hr
theorem pp_nil {pos : Pos} : PPs X pos [] [] (trsOf X.K W []) := pps_nil
theorem d_disp {pos : Pos} {keys : List (Option Expr)} {values : List Expr} {ps : List (EX × EX)} (h : PPs X pos keys values (trsOf X.K W ps)) (hall : keys.all (·.isSome) = true := by rfl) (hl : keys.length = values.length := by rfl) (h0 : keys ≠ [] := by simp) (h15 : keys.length ≤ 15 := by decide) : PD X W (.Dict keys values pos) (eDisp ps) :=
  imp_E (pe_post (pe_disp h hall hl h0 h15)) fun σ H Q ⟨fr, F, ρ, n, r, n', R, e, k⟩ => by
    intro p hp
    have hH0 := R.core.noH0 hp
    have hdr := R.core.ndr hp
    have hno := R.noOwn hp
    have hF := R.core.noF hp
    have R0 : Rel X.K W fr F (upd H p (.dK [])) σ ρ n := R.other hF hH0 hdr hno (sd_no hp)
    have RI : Rel X.K W (fr.at F (upd H p (.dK []))) F (upd H p (.dK [])) σ (hide ρ) n := R0.inner
    rcases r with z | d
    · rcases M.bind_err e with e1 | ⟨kvs, n1, e1, h1⟩
      · exact (dispK_calm e1).elim
      · exact (M.opt_err h1).elim
    obtain ⟨kvs, n1, e1, h1⟩ := M.bind_ok e
    obtain ⟨e2, e3⟩ := M.opt_ok h1
    subst e3
    split at e2
    · rename_i h15'
      cases e2
      refine pairs_ok RI e1 fun F1 H1 us R1 s1 hl1 d1 => ?_
      have a1 : H1 p = some (.dK []) := R1.core.base p _ (mask_of upd_same) hdr fun z => z
      have f1 : F1 p = none := R1.core.new p _ (mask_of upd_same) hF
      refine ⟨a1, (kvs.map (·.1)).zip us, rfl, by rw [List.length_zip, List.length_map]; omega, ?_⟩
      obtain ⟨vs', q1, q2, q3⟩ := merge_putAll (K := X.K) (W := W) (ks := []) (vs := []) (ds := []) hl1 d1 rfl .nil
      have q2 : mergeK [] ((kvs.map (·.1)).zip us) = _ := q2
      rw [q2]
      have R2 := R0.back R1.core
      have hno' : NoOwn p σ ρ := hno
      refine ⟨p, _, upd_same, trivial, fun od => ?_⟩
      rw [upd_upd]
      have R3 := R2.other (o := .frz od (.dK ((putAll [] [] kvs).1.zip vs'))) f1 hH0 hdr hno' (sd_of a1)
      obtain ⟨u1, R4⟩ := R3.addF upd_same f1 hH0 hdr hno'
      exact k _ _ _ R4 (s1.trans u1) (.dic q1 ⟨od, upd_same⟩ (q3.mono u1 fun _ z => z))
    · cases e2
end
end DL
end

section
set_option Elab.async false
set_option linter.all false
set_option autoImplicit false
set_option maxRecDepth 100000
set_option maxHeartbeats 1000000
/-! d = {k: v, ..} of one's own -/
namespace DL
open PySem PySem.Spec L2
section
variable {X : Cx} {W : Wd}
end
end DL
end

section
set_option Elab.async false
set_option linter.all false
set_option autoImplicit false
set_option maxRecDepth 100000
set_option maxHeartbeats 1000000
/-! defs with defaults that are constants; calls that leave them out -/
namespace DL
open PySem PySem.Spec L2
open PyProof.Rows (envOfC)
structure FunV (K : PySem.W.Frag) (x qual : Str) (st : Stmt) (dds : List D) (f : Addr) (fd : FuncData) : Prop where
  ex : ∃ (oc : Value) (od : Option Addr) (T : Addr) (kV doc pm : Value) (an : Option Addr) (cdv ct : Value) (osl : Array (Option Value)),
    fd = PySem.W.fnOf x qual (defArgs st) (defBody st) (defScope st) (.ref T) kV doc pm an cdv ct ∧ K.lookup f = some ⟨oc, od, .func fd, osl⟩ ∧ PySem.W.codeIn K cdv qual = true ∧ relDB K (.tup dds) (.ref T) = true
  kp : PySem.W.keepIn K (.ref f) = true
theorem allDB_len {K : PySem.W.Frag} : ∀ {ds : List D} {us : List Value}, allDB ds us = true → ∃ vs, vs.length = ds.length ∧ Vals vs us ∧ ∀ (W : Wd) dr F, Dens K W dr F vs ds
  | [], [], _ => ⟨[], rfl, .nil, fun _ _ _ => .nil⟩
  | d :: ds, u :: us, h => by
    have h' : (flDB d u && allDB ds us) = true := h
    rw [Bool.and_eq_true] at h'
    obtain ⟨vs, l, rs, es⟩ := allDB_len (K := K) h'.2
    have h1 := h'.1
    have q : ∃ v, RelV v u ∧ ∀ (W : Wd) dr F, Den K W dr F v d := by
      unfold flDB at h1
      split at h1
      · exact ⟨.non, rfl, fun _ _ _ => .non⟩
      · rw [eq_of_beq h1]; exact ⟨.bl _, rfl, fun _ _ _ => .bl _⟩
      · rw [eq_of_beq h1]; exact ⟨.int _, ⟨_, rfl⟩, fun _ _ _ => .int _⟩
      · rw [eq_of_beq h1]; exact ⟨.str _, ⟨_, rfl⟩, fun _ _ _ => .str _⟩
      · cases h1
    obtain ⟨v, r, e⟩ := q
    exact ⟨v :: vs, congrArg Nat.succ l, .cons r rs, fun W dr F => .cons (e W dr F) (es W dr F)⟩
  | [], _ :: _, h => by cases h
  | _ :: _, [], h => by cases h
section
variable {P : Program} {w : World} {K : PySem.W.Frag} {mg : Str → Option Value} {base : Heap} {W : Wd}
theorem FunV.toD {x qual : Str} {st : Stmt} {dds : List D} {f : Addr} {fd : FuncData} (F : FunV K x qual st dds f fd) (hd : dds ≠ []) : ∃ dvs, FunD K x qual (defArgs st) (defBody st) (defScope st) dvs [] f fd ∧ dvs.length = dds.length ∧ ∀ (W : Wd) dr F, Dens K W dr F dvs dds := by
  obtain ⟨oc, od, T, kV, doc, pm, an, cdv, ct, osl, e, l, c, t⟩ := F.ex
  unfold relDB at t
  split at t
  · rename_i ds a hx hy
    cases hx
    cases hy
    split at t
    · rename_i c' od' its n sl q
      rw [Bool.and_eq_true, Bool.and_eq_true] at t
      obtain ⟨h1, h2, h3⟩ := t
      obtain ⟨vs, hl, rs, es⟩ := allDB_len (K := K) h3
      exact ⟨vs, ⟨⟨oc, od, .ref T, kV, doc, pm, an, cdv, ct, osl, e, l, c, .inr ⟨fun z => hd (List.length_eq_zero_iff.mp (by rw [← hl, z]; rfl)), T, _, its.toList, n, rfl, q, by rw [Array.toArray_toList], rs⟩, .inl rfl⟩, F.kp⟩, hl, es⟩
    · cases t
  · rename_i hh
    exact absurd rfl (hh dds T rfl)
theorem FunV.binds {x qual : Str} {st : Stmt} {dds : List D} {f : Addr} {fd : FuncData} {ps : List Str} (F : FunV K x qual st dds f fd) (n j : Nat) (hd : dds ≠ [] := by simp) (hn : n + (dds.length - j) = ps.length := by rfl)
    (h : ∀ (T : Addr) (kV doc pm : Value) (an : Option Addr) (cdv ct : Value) (us its : List Value), us.length = n → its.length = dds.length →
      ∃ k, bindArgs (PySem.W.fnOf x qual (defArgs st) (defBody st) (defScope st) (.ref T) kV doc pm an cdv ct) ⟨us, []⟩ = seqItems? (.ref T) >>= k ∧ k (some its.toArray) = pure (ps.zip (us ++ its.drop j))) : ∃ ds dvs, Vals dvs ds ∧ Binds K fd ps ds ∧ ∀ (W : Wd) dr F, Dens K W dr F dvs (dds.drop j) := by
  obtain ⟨dvs, FD, hl, es⟩ := F.toD hd
  obtain ⟨ds, r, b⟩ := FD.binds1 (ps := ps) n j (fun z => hd (List.length_eq_zero_iff.mp (by rw [← hl, z]; rfl))) (by rw [hl]; exact hn) fun T kV doc pm an cdv ct us its h1 h2 => h T kV doc pm an cdv ct us its h1 (by rw [h2, hl])
  exact ⟨ds, dvs.drop j, r, b, fun W dr F => (es W dr F).drop j⟩
/-! calls -/
end
section
variable {X : Cx} {W : Wd} {k : Nat} {x m : Str} {p pos apos : Pos} {e o : Expr} {es : List Expr} {fx : FX} {fo : EX} {fs : EXs} {mm c : Nat} {pl : Sem Bool} {dds : List D}
end
end DL
end

section
set_option Elab.async false
set_option linter.all false
set_option autoImplicit false
set_option maxRecDepth 100000
set_option maxHeartbeats 1000000
/-! a if c else b as a test -/
namespace DL
open PySem PySem.Spec L2 PyProof.Rows
section
variable {X : Cx} {W : Wd}
end
end DL
end

section
set_option Elab.async false
set_option linter.all false
set_option autoImplicit false
set_option maxRecDepth 100000
set_option maxHeartbeats 1000000
/-! one's own dict, read by a key -/
namespace DL
open PySem PySem.Spec L2
section
variable {X : Cx} {W : Wd} {pos : Pos}
end
end DL
end

section
set_option Elab.async false
set_option linter.all false
set_option autoImplicit false
set_option maxRecDepth 100000
set_option maxHeartbeats 1000000
namespace DL
open PySem PySem.Spec L2
section
variable {X : Cx} {W : Wd}
end
end DL
end

section
set_option Elab.async false
set_option linter.all false
set_option autoImplicit false
set_option maxRecDepth 100000
set_option maxHeartbeats 1000000
/-! xs, d = ([], {}) of one's own; xs[a::b] -/
namespace DL
open PySem PySem.Spec L2
open PyProof.Rows
section
variable {X : Cx} {W : Wd}
end
theorem Vals.filterMap {xs : List V} {us : List Value} (r : Vals xs us) : ∀ ks : List Nat, Vals (ks.filterMap (xs[·]?)) (ks.filterMap (us[·]?))
  | [] => .nil
  | k :: ks => by
    rw [List.filterMap_cons, List.filterMap_cons]
    cases e : xs[k]? with
    | none => rw [r.none_of e]; exact Vals.filterMap r ks
    | some x =>
      obtain ⟨u, e2, r2⟩ := r.get e
      rw [e2]
      exact .cons r2 (Vals.filterMap r ks)
section
variable {X : Cx} {W : Wd} {te : TE} {tl ts : TO}
theorem Dens.filterMap {K : PySem.W.Frag} {dr : Option Addr} {F : Hp} {vs : List V} {ds : List D} (h : Dens K W dr F vs ds) : ∀ ks : List Nat, Dens K W dr F (ks.filterMap (vs[·]?)) (ks.filterMap (ds[·]?))
  | [] => .nil
  | k :: ks => by
    rw [List.filterMap_cons, List.filterMap_cons]
    cases e : ds[k]? with
    | none =>
      have : vs[k]? = none := by
        rw [List.getElem?_eq_none_iff] at e ⊢
        rw [h.length]; exact e
      rw [this]
      exact Dens.filterMap h ks
    | some x =>
      obtain ⟨u, e2, r2⟩ := h.get e
      rw [e2]
      exact .cons r2 (Dens.filterMap h ks)
end
end DL
end

section
set_option Elab.async false
set_option linter.all false
set_option autoImplicit false
set_option maxRecDepth 100000
set_option maxHeartbeats 1000000
/-! isqrt of whole numbers; tuple(range(a, b)) -/
namespace DL
open PySem PySem.Spec L2
open PyProof.Rows
section
variable {X : Cx} {W : Wd}
end
end DL
end

section
set_option Elab.async false
set_option linter.all false
set_option autoImplicit false
set_option maxRecDepth 100000
set_option maxHeartbeats 1000000
/-! an own class of exceptions whose __init__ says super().__init__('..') and keeps what it is given in fields of the same names -/
namespace DL
open PySem PySem.Spec L2
/-- self.f = f, for each of fs -/
inductive IniTail : List Stmt → List Str → Prop
  | nil : IniTail [] []
  | cons {f : Str} {q1 q2 q3 q4 : Pos} {r : List Stmt} {fs : List Str} : IniTail r fs → IniTail (.Assign [.Attribute (.Name "self" q1) f q2] (.Name f q3) q4 :: r) (f :: fs)
/-- what the written part says of the class at C -/
structure XIni (P : Program) (K : PySem.W.Frag) (C : Addr) (fs : List Str) : Prop where
  T : OexC K C
  sub : PySem.W.subIn K (.ref C) (.type "ValueError") = some true
  mro : PySem.W.mroIn K C (.ref C) = some true
  sup : PySem.W.nsIn K mainGlobals "super" = some none
  sui : PySem.W.ks_superIn K C C "__init__" = some (some (.builtin "ValueError.__init__"))
  opq : PySem.W.nsIn K cStatics "thirdparty.any" = some none
  top : (P.main.scope.names.lookup ("super" : Str)).isSome = false
  nof : ∀ f ∈ fs, PySem.W.findIn K (.ref C) f = some none
  few : fs.length ≤ 100
  nd : ("self" :: fs : List Str).Nodup
  dbg : ∀ f ∈ ("self" :: fs : List Str), (f == ("__debug__" : Str)) = false
  fn : ∃ (fI cc cda : Addr) (name qual : Str) (params : Arguments) (body tail : List Stmt) (scope : Scope) (dV kV doc pm ct oc ccl cl : Value) (an od cdd cld : Option Addr) (osl ccs csl : Array (Option Value)) (vs : Array Value) (file m : Str) (tf : Tok) (ar : Arg) (j : Nat) (p0 p1 p2 p3 p4 p5 : Pos),
    PySem.W.findIn K (.ref C) "__init__" = some (some (.ref fI)) ∧ PySem.W.typeIn K (.ref fI) = some (.type "function") ∧
    K.lookup fI = some ⟨oc, od, .func (PySem.W.ksFn name qual params body scope dV kV doc pm an (.ref cda) ct cc), osl⟩ ∧ PySem.W.codeIn K (.ref cda) qual = true ∧
    K.lookup cda = some ⟨ccl, cdd, .fields vs, ccs⟩ ∧ vs[2]? = some (.str file tf) ∧ ((P.main.file : Str) == file) = true ∧
    K.lookup cc = some ⟨cl, cld, .cell (some (.ref C)), csl⟩ ∧
    (params.posonlyargs ++ params.args).head? = some ar ∧ ar.arg = "self" ∧
    scope.kind = .function ∧ scope.isCoroutine = false ∧ scope.isGenerator = false ∧ (∀ x ∈ scope.names, x.2 ≠ .cell) ∧
    scope.names.lookup ("super" : Str) = some .globalImplicit ∧ scope.names.lookup ("__class__" : Str) = some .free ∧ (∀ f ∈ ("self" :: fs : List Str), scope.names.lookup f = some .local) ∧
    (∀ us : List Value, us.length = fs.length + 1 → bindArgs (PySem.W.ksFn name qual params body scope dV kV doc pm an (.ref cda) ct cc) ⟨us, []⟩ = pure (("self" :: fs : List Str).zip us)) ∧
    body = .Expr (.Call (.Attribute (.Call (.Name "super" p0) [] [] p1) "__init__" p2) [.Constant (.str m) j p3] [] p4) p5 :: tail ∧ IniTail tail fs ∧
    ∀ env : PySem.Env, ∃ pl : Sem Bool, eval (.Call (.Attribute (.Call (.Name "super" p0) [] [] p1) "__init__" p2) [.Constant (.str m) j p3] [] p4) env = (do
      let ov ← attributeBase (.Call (.Name "super" p0) [] [] p1) "__init__" env (eval (.Call (.Name "super" p0) [] [] p1) env)
      standAt p2.atName
      let (f, first) ← holding [ov] (getMethod ov "__init__" pl)
      callWith p4 f first (backTo p4 (starEach [.Constant (.str m) j p3] env)) [])

section
open PySem.W PySem.Calls PyProof.Rows
variable {prog : Program} {w : World} {A : Around} {E : Value → Shared → Prop} {h : Heap} {g : Array GenState} {d : Drawn} {t : Nat} {os : OsState}
end
section
open PySem.W PySem.Calls PyProof.Rows
variable {X : Cx}
end
end DL
end

section
set_option Elab.async false
set_option linter.all false
set_option autoImplicit false
set_option maxRecDepth 100000
set_option maxHeartbeats 1000000
/-! raise C(e, ..) of such a class; try with several clauses, some of them with a name; a def that tells what a deed raises -/
namespace DL
open PySem PySem.Spec L2
section
variable {X : Cx} {W : Wd}
end

/-! ### several clauses -/
structure Hd where
  c : Value
  i : Option Nat
  ts : Addr → Value → Option Addr → TS
inductive HdsMix (X : Cx) : List ExceptHandler → List Hd → Prop
  | nil : HdsMix X [] []
  | only {x : Str} {c : Value} {ts : Addr → Value → Option Addr → TS} {b₀ : Stmt} {suite : List Stmt} {np pos' : Pos} {hds : List ExceptHandler} {l : List Hd} (hc : Names X x c)
      (hsu : ∀ (a : Addr) (oe : Obj) (cls : Value) (d : Option Addr) (pn : List (Addr × Obj)), Zc cls d oe → (∃ vs, oe.data = .fields vs) → PSs (X.suite a ((a, oe) :: pn)) (b₀ :: suite) (ts a cls d)) (r : HdsMix X hds l) :
      HdsMix X (.ExceptHandler (some (.Name x np)) none (b₀ :: suite) pos' :: hds) (⟨c, none, ts⟩ :: l)
  | as_ {x n : Str} {c : Value} {i : Nat} {ts : Addr → Value → Option Addr → TS} {b₀ : Stmt} {suite : List Stmt} {np pos' : Pos} {hds : List ExceptHandler} {l : List Hd} (hc : Names X x c) (hN : X.N.Nodup) (hi : X.N[i]? = some n) (hln : X.env.kindOf n = some .local)
      (hsu : ∀ (a : Addr) (oe : Obj) (cls : Value) (d : Option Addr) (pn : List (Addr × Obj)), Zc cls d oe → (∃ vs, oe.data = .fields vs) → PSs (X.suite a ((a, oe) :: pn)) (b₀ :: suite) (ts a cls d)) (r : HdsMix X hds l) :
      HdsMix X (.ExceptHandler (some (.Name x np)) (some n) (b₀ :: suite) pos' :: hds) (⟨c, some i, ts⟩ :: l)
section
open PyProof.Rows
variable {X : Cx} {body : List Stmt} {h₀ : ExceptHandler} {hds : List ExceptHandler} {l : List Hd} {pos : Pos} {tb : WX → TS} {Wout : WX}
end
end DL
end

section
set_option Elab.async false
set_option linter.all false
set_option autoImplicit false
set_option maxRecDepth 100000
set_option maxHeartbeats 1000000
/-! a def that tells what a deed raises -/
namespace DL
open PySem PySem.Spec L2
open PyProof.Rows (envOfC)
/-! ### what a suite returns of the exception that it holds -/
def hvs : List (Xc → Option D) → Xc → Option (List D)
  | [], _ => some []
  | h :: l, z => (h z).bind fun d => (hvs l z).map fun ds => d :: ds
theorem XDen.ext {K : PySem.W.Frag} {W : Wd} {dr : Option Addr} {F F' H H' : Hp} {z : Xc} {cls : Value} {d : Option Addr} (x : XDen K W dr F H z cls d) (s : Sub F F') (h : ∀ a o, H a = some o → NT o → H' a = some o) : XDen K W dr F' H' z cls d := by
  refine ⟨x.1, ?_⟩
  rcases x.2 with q | ⟨a, us, q1, q2, q3, q4, q5⟩
  · exact .inl q
  · exact .inr ⟨a, us, q1, q2, h _ _ q3 (fun _ z => by cases z), q4, q5.mono s fun _ z => z⟩
/-- the wish behind a suite's expression -/
abbrev HQ (K : PySem.W.Frag) (W : Wd) (fr : Fr) (F H : Hp) (σc : L2.St) (ρ : DL.Env) (n : Int) (dv : D) (Q : VK) : Prop := ∀ F' H' w, Rel K W fr F' H' σc ρ n → Sub F F' → (∀ a o, H a = some o → NT o → H' a = some o) → Den K W fr.dr F' w dv → Q w H'
abbrev slI (i : Nat) : Addr → L2.St → Prop := fun a σ => σ[i]? = some (some (.ref a))
abbrev sl0 : Addr → L2.St → Prop := fun _ _ => True
def HV (Z : Cx) (W : Wd) (sl : Addr → L2.St → Prop) (e : Expr) (hv : Xc → Option D) : Prop := ∀ (a : Addr) (oe : Obj) (cls : Value) (d : Option Addr) (pn : List (Addr × Obj)), Zc cls d oe → (∃ vs, oe.data = .fields vs) → ∃ te : TE, PE (Z.suite a ((a, oe) :: pn)) e te ∧
  ∀ fr F H σc ρ n z dv σ Q, Rel Z.K W fr F H σc ρ n → XDen Z.K W fr.dr F H z cls d → sl a σ → hv z = some dv → HQ Z.K W fr F H σc ρ n dv Q → te σ H Q
section
variable {Z : Cx} {W : Wd} {i : Nat} {sl : Addr → L2.St → Prop}
end

/-! ### the clauses -/
def hR (K : PySem.W.Frag) (W : Wd) (hv : Xc → Option D) : Value → Option Addr → Hp → VK → Prop := fun cls d H Q => ∃ fr F σc ρ n z dv, Rel K W fr F H σc ρ n ∧ XDen K W fr.dr F H z cls d ∧ hv z = some dv ∧ HQ K W fr F H σc ρ n dv Q
/-- what the clauses make of an exception -/
def wTell (K : PySem.W.Frag) (W : Wd) (Q : VK) : List (Value × (Xc → Option D)) → Value → Option Addr → Hp → Prop
  | [], _, _, _ => False
  | (c, hv) :: l, cls, d, H => ∃ b, PySem.W.exmOne K cls c = some b ∧ (b = true → hR K W hv cls d H Q) ∧ (b = false → wTell K W Q l cls d H)
def TTm (K : PySem.W.Frag) (W : Wd) (L : List (Value × (Xc → Option D))) : (XK → Hp → VK → Prop) → Hp → VK → Prop := fun tl H Q =>
  ∀ E Q', (∀ cls d H', wTell K W Q L cls d H' → E cls d H') → (∀ v H', Q .non H' → Q' v H') → tl E H Q'
/-- the clauses' derivations: i the slot of the name -/
inductive Tls (Z : Cx) (W : Wd) (i : Nat) : List ExceptHandler → List (Value × (Xc → Option D)) → Prop
  | nil : Tls Z W i [] []
  | only {x : Str} {c : Value} {hv : Xc → Option D} {e : Expr} {np pr pos' : Pos} {hds : List ExceptHandler} {l : List (Value × (Xc → Option D))} (hc : Names Z x c) (h : HV Z W sl0 e hv) (r : Tls Z W i hds l) : Tls Z W i (.ExceptHandler (some (.Name x np)) none [.Return (some e) pr] pos' :: hds) ((c, hv) :: l)
  | as_ {x n : Str} {c : Value} {hv : Xc → Option D} {e : Expr} {np pr pos' : Pos} {hds : List ExceptHandler} {l : List (Value × (Xc → Option D))} (hc : Names Z x c) (hN : Z.N.Nodup) (hi : Z.N[i]? = some n) (hln : Z.env.kindOf n = some .local) (h : HV Z W (slI i) e hv) (r : Tls Z W i hds l) :
      Tls Z W i (.ExceptHandler (some (.Name x np)) (some n) [.Return (some e) pr] pos' :: hds) ((c, hv) :: l)
/-! ### told -/
/-- the classes of the clauses -/
inductive TLs (K : PySem.W.Frag) (W : Wd) : List ((Nat → Option Bool) × (Xc → Option D)) → List (Value × (Xc → Option D)) → Prop
  | nil : TLs K W [] []
  | cons {m : Nat → Option Bool} {hv : Xc → Option D} {c : Value} {l : List ((Nat → Option Bool) × (Xc → Option D))} {l' : List (Value × (Xc → Option D))} (h : ∀ i b, m i = some b → PySem.W.exmOne K (.ref (W.cl i)) c = some b) (r : TLs K W l l') : TLs K W ((m, hv) :: l) ((c, hv) :: l')
/-- a def that tells, as a fact -/
structure TelF (K : PySem.W.Frag) (mg : Str → Option Value) (W : Wd) (x : Str) (L : List ((Nat → Option Bool) × (Xc → Option D))) : Prop where
  ex : ∃ (g : Addr) (a : Str) (pg : Arguments) (bg : List Stmt) (sg : Scope) (dV kV doc pm cdv ct oc : Value) (an od : Option Addr) (osl : Array (Option Value)) (Ng : List Str) (L' : List (Value × (Xc → Option D))),
    mg x = some (.ref g) ∧ PySem.W.keepIn K (.ref g) = true ∧ K.lookup g = some ⟨oc, od, .func (PySem.W.fnOf x x pg bg sg dV kV doc pm an cdv ct), osl⟩ ∧ PySem.W.codeIn K cdv x = true ∧ Binds K (PySem.W.fnOf x x pg bg sg dV kV doc pm an cdv ct) [a] [] ∧ FnScope Ng [a] sg ∧ Ng[0]? = some a ∧ Vis sg a ∧
    TLs K W L L' ∧ (∀ (X : Cx) (q : Str), X.K = K → X.mg = mg → LamX.GivesTo X Ng x sg g cdv bg a q (TTm K W L')) ∧ (x == ("__debug__" : Str)) = false ∧ (a == ("__debug__" : Str)) = false ∧ (a == ("__classdict__" : Str)) = false
end DL
end

section
set_option Elab.async false
set_option linter.all false
set_option autoImplicit false
set_option maxRecDepth 100000
set_option maxHeartbeats 1000000
namespace DL
open PySem PySem.Spec L2
end DL
end

section
set_option Elab.async false
set_option linter.all false
set_option autoImplicit false
set_option maxRecDepth 100000
set_option maxHeartbeats 1000000
/-! match of a name against texts; a try whose suite raises; a try whose suites return an expression -/
namespace DL
open PySem PySem.Spec L2
/-! ### match -/
section
variable {X : Cx} {W : Wd}
def mOn (x : Str) (g : SX) (h : D → SX) : D → SX := fun d ρ => match dEq d (.str x) with
  | some (.bl true) => g ρ
  | some (.bl false) => h d ρ
  | _ => M.opt none
inductive CasesOk (X : Cx) (W : Wd) : List MatchCase → (D → SX) → Prop
  | any {body : List Stmt} {g : SX} {p : Pos} (h : PDSs X W body g) : CasesOk X W [⟨.MatchAs none none p, none, body⟩] (fun _ => g)
  | str {x : Str} {j : Nat} {p1 p2 : Pos} {body : List Stmt} {rest : List MatchCase} {g : SX} {h : D → SX} (hb : PDSs X W body g) (r : CasesOk X W rest h) : CasesOk X W (⟨.MatchValue (.Constant (.str x) j p1) p2, none, body⟩ :: rest) (mOn x g h)
end
/-! ### the same meaning under the other mode -/
abbrev Wd.n (W : Wd) : Wd := { W with md := true }
section
variable {K : PySem.W.Frag} {W : Wd} {dr : Option Addr} {F H : Hp}
mutual
theorem Den.toN : ∀ {v : V} {d : D}, Den K W dr F v d → Den K W.n dr F v d
  | _, _, .non => .non
  | _, _, .bl b => .bl b
  | _, _, .int i => .int i
  | _, _, .str x => .str x
  | _, _, .tup h r => .tup h (Dens.toN r)
  | _, _, .lst h r => .lst h (Dens.toN r)
  | _, _, .scr h => .scr h
  | _, _, .rng h => .rng h
  | _, _, .odd h r => .odd h (Den.toN r)
  | _, _, .dic l h r => .dic l h (Dens.toN r)
  | _, _, .dit l h r => .dit l h (Dens.toN r)
  | _, _, .obj l h r => .obj l h (Dens.toN r)
  | _, _, .drw h => .drw h
theorem Dens.toN : ∀ {vs : List V} {ds : List D}, Dens K W dr F vs ds → Dens K W.n dr F vs ds
  | _, _, .nil => .nil
  | _, _, .cons h r => .cons (Den.toN h) (Dens.toN r)
end
mutual
theorem Den.ofN : ∀ {v : V} {d : D}, Den K W.n dr F v d → Den K W dr F v d
  | _, _, .non => .non
  | _, _, .bl b => .bl b
  | _, _, .int i => .int i
  | _, _, .str x => .str x
  | _, _, .tup h r => .tup h (Dens.ofN r)
  | _, _, .lst h r => .lst h (Dens.ofN r)
  | _, _, .scr h => .scr h
  | _, _, .rng h => .rng h
  | _, _, .odd h r => .odd h (Den.ofN r)
  | _, _, .dic l h r => .dic l h (Dens.ofN r)
  | _, _, .dit l h r => .dit l h (Dens.ofN r)
  | _, _, .obj l h r => .obj l h (Dens.ofN r)
  | _, _, .drw h => .drw h
theorem Dens.ofN : ∀ {vs : List V} {ds : List D}, Dens K W.n dr F vs ds → Dens K W dr F vs ds
  | _, _, .nil => .nil
  | _, _, .cons h r => .cons (Den.ofN h) (Dens.ofN r)
end
theorem Den.eqN : Den K W.n dr F = Den K W dr F := by
  funext v d
  exact propext ⟨Den.ofN, Den.toN⟩
theorem Dens.eqN : Dens K W.n dr F = Dens K W dr F := by
  funext v d
  exact propext ⟨Dens.ofN, Dens.toN⟩
theorem Fens.toN {b : Addr} {es : List D} {f : Str} : ∀ {ks : List Str} {vs : List V} {ds : List D}, Fens K W dr F b es f ks vs ds → Fens K W.n dr F b es f ks vs ds
  | _, _, _, .nil => .nil
  | _, _, _, .own h => .own (Fens.toN h)
  | _, _, _, .den n d h => .den n d.toN (Fens.toN h)
theorem Fens.ofN {b : Addr} {es : List D} {f : Str} : ∀ {ks : List Str} {vs : List V} {ds : List D}, Fens K W.n dr F b es f ks vs ds → Fens K W dr F b es f ks vs ds
  | _, _, _, .nil => .nil
  | _, _, _, .own h => .own (Fens.ofN h)
  | _, _, _, .den n d h => .den n d.ofN (Fens.ofN h)
theorem Fens.eqN {b : Addr} {es : List D} {f : Str} : Fens K W.n dr F b es f = Fens K W dr F b es f := by
  funext k v d
  exact propext ⟨Fens.ofN, Fens.toN⟩
theorem MDen.eqN {a : Addr} {d : D} : MDen K W.n dr F H a d = MDen K W dr F H a d := by
  cases d <;> simp only [MDen, Dens.eqN]
theorem MobD.eqN {a b : Addr} {o : D} {f : Str} : MobD K W.n dr F H a b o f = MobD K W dr F H a b o f := by
  simp only [MobD, Dens.eqN, Fens.eqN]
theorem XDen.eqN {z : Xc} {cls : Value} {d : Option Addr} : XDen K W.n dr F H z cls d = XDen K W dr F H z cls d := by
  simp only [XDen, Dens.eqN]
end
section
variable {K : PySem.W.Frag} {W : Wd} {fr : Fr} {F H : Hp} {σ : L2.St} {ρ : DL.Env} {n : Int}
theorem Core.toN (c : Core K W fr F H n) : Core K W.n fr F H n := ⟨c.sub, c.base, c.f0, c.new, c.there, c.draw, c.ntF, c.tabs⟩
theorem Core.ofN (c : Core K W.n fr F H n) : Core K W fr F H n := ⟨c.sub, c.base, c.f0, c.new, c.there, c.draw, c.ntF, c.tabs⟩
theorem Slots.toN {ad : Nat → Addr} (s : Slots K W fr F H σ ρ ad) : Slots K W.n fr F H σ ρ ad :=
  ⟨s.len, fun i d e => by rw [Den.eqN]; exact s.val i d e, fun i d e => by rw [MDen.eqN]; exact s.own i d e, s.inj, fun i o f e => by simp only [MobD.eqN]; exact s.mob i o f e⟩
theorem Slots.ofN {ad : Nat → Addr} (s : Slots K W.n fr F H σ ρ ad) : Slots K W fr F H σ ρ ad :=
  ⟨s.len, fun i d e => by have := s.val i d e; rw [Den.eqN] at this; exact this, fun i d e => by have := s.own i d e; rw [MDen.eqN] at this; exact this, s.inj, fun i o f e => by have := s.mob i o f e; simp only [MobD.eqN] at this; exact this⟩
theorem Rel.toN (r : Rel K W fr F H σ ρ n) : Rel K W.n fr F H σ ρ n := let ⟨ad, s⟩ := r.slots; ⟨r.core.toN, ad, s.toN⟩
theorem Rel.ofN (r : Rel K W.n fr F H σ ρ n) : Rel K W fr F H σ ρ n := let ⟨ad, s⟩ := r.slots; ⟨r.core.ofN, ad, s.ofN⟩
theorem OutK.toN {E : Ends} : ∀ {o : Out}, OutK K W fr F E o n → OutK K W.n fr F E o n
  | .nx _, k => fun F' H' σ' r s => k F' H' σ' r.ofN s
  | .bk _, k => fun F' H' σ' r s => k F' H' σ' r.ofN s
  | .ct _, k => fun F' H' σ' r s => k F' H' σ' r.ofN s
  | .ret _, k => fun F' H' v c s d => k F' H' v c.ofN s d.ofN
  | .rn _, k => fun F' H' σ' r s => k F' H' σ' r.ofN s
end
/-! ### a try whose suite raises -/
section
variable {X : Cx} {W : Wd}
end
/-! ### clauses that return an expression -/
abbrev HX := DL.Env → Xc → M D
def HE (Z : Cx) (W : Wd) (sl : Addr → L2.St → Prop) (e : Expr) (hx : HX) : Prop := ∀ (a : Addr) (oe : Obj) (cls : Value) (d : Option Addr) (pn : List (Addr × Obj)), Zc cls d oe → (∃ vs, oe.data = .fields vs) → ∃ te : TE, PE (Z.suite a ((a, oe) :: pn)) e te ∧
  ∀ fr F H ρ n z dv n' σ Q, Rel Z.K W fr F H σ ρ n → XDen Z.K W fr.dr F H z cls d → sl a σ → hx ρ z n = some (.ok dv, n') → (∀ F' H' w, Rel Z.K W fr F' H' σ ρ n' → Sub F F' → Den Z.K W fr.dr F' w dv → Q w H') → te σ H Q
section
variable {Z : Cx} {W : Wd} {i : Nat} {sl : Addr → L2.St → Prop}
end
structure Cl where
  m : Nat → Option Bool
  i : Option Nat
  hx : HX
inductive Rts (Z : Cx) (W : Wd) : List ExceptHandler → List Cl → Prop
  | nil : Rts Z W [] []
  | only {x : Str} {c : Value} {m : Nat → Option Bool} {hx : HX} {e : Expr} {np pr pos' : Pos} {hds : List ExceptHandler} {l : List Cl} (hc : Names Z x c) (hm : ∀ i b, m i = some b → PySem.W.exmOne Z.K (.ref (W.cl i)) c = some b) (h : HE Z W sl0 e hx) (r : Rts Z W hds l) : Rts Z W (.ExceptHandler (some (.Name x np)) none [.Return (some e) pr] pos' :: hds) (⟨m, none, hx⟩ :: l)
  | as_ {i : Nat} {x n : Str} {c : Value} {m : Nat → Option Bool} {hx : HX} {e : Expr} {np pr pos' : Pos} {hds : List ExceptHandler} {l : List Cl} (hc : Names Z x c) (hm : ∀ i b, m i = some b → PySem.W.exmOne Z.K (.ref (W.cl i)) c = some b) (hN : Z.N.Nodup) (hi : Z.N[i]? = some n) (hln : Z.env.kindOf n = some .local) (h : HE Z W (slI i) e hx) (r : Rts Z W hds l) :
      Rts Z W (.ExceptHandler (some (.Name x np)) (some n) [.Return (some e) pr] pos' :: hds) (⟨m, some i, hx⟩ :: l)
end DL
end

section
set_option Elab.async false
set_option linter.all false
set_option autoImplicit false
set_option maxRecDepth 100000
set_option maxHeartbeats 1000000
/-! in, not in, of a module's table, as tests -/
namespace DL
open PySem PySem.Spec L2
section
variable {X : Cx} {W : Wd} {x : Str} {p pos : Pos} {e : Expr} {f : EX} {a : Addr} {tbl : List (Str × D)}
end
end DL
end

section
set_option Elab.async false
set_option linter.all false
set_option autoImplicit false
set_option maxRecDepth 100000
set_option maxHeartbeats 1000000
/-! locked dicts walked: keys and pairs, whatever the keys are -/
namespace DL
open PySem PySem.Spec L2
section
variable {prog : Program} {w : World} {A : Around} {E : Value → Shared → Prop} {s : Shared}
theorem alive_any {a : Addr} {Q : Option Obj → Shared → Prop} (h : Q (s.heap.get? a) s) : wpAny (model prog w) A (loadIfAlive a) Q E s := fun _ _ _ => h
abbrev itObj (w0 : Value) (f : Bool) (d : Addr) (i n ep : Nat) (k v : Value) : Obj := { cls := .type "dict_itemiterator", dict := none, data := .fields #[w0, .bool f, .ref d, .int i 0, .int n 0, .int ep 0, k, v], slots := #[] }
/-- the next pair where the one before is held by a name, or is gone -/
theorem next_nm {it d a : Addr} {f : Bool} {i ep : Nat} {es : Array DictEntry} {kk vv : Value} {Q : Option Value → Shared → Prop} (hit : s.heap.get? it = some (itObj (rawInt a) f d i es.size ep kk vv)) (hm : s.heap.DictRaw d es ep) (hi : i < es.size)
    (hQ : ∀ h' k' v' (a' : Addr) f', h'.get? it = some (itObj (rawInt a') f' d (i + 1) es.size ep k' v') → h'.get? s.heap.objs.size = some { cls := .type "tuple", data := .seq #[es[i].key, es[i].val] } → h'.objs.size = s.heap.objs.size + 1 → (∀ b o, b ≠ it → s.heap.get? b = some o → h'.get? b = some o) → Q (some (.ref s.heap.objs.size)) { s with heap := h' }) :
    wpAny (model prog w) A (pyNext (.ref it)) Q E s := by
  obtain ⟨H0, gg, dd, tt, oo⟩ := s
  obtain ⟨od, hod, hcd, hdd⟩ := id hm
  have ty : Shared.TypeIs ⟨H0, gg, dd, tt, oo⟩ (.ref it) "dict_itemiterator" := ⟨_, hit, rfl⟩
  unfold pyNext
  refine wpAny_bind (wpAny_attempt (wpAny_callSpecial?_slot (name := Str.ofString "__next__") ty PySem.F.slot_dict_itemiterator_next (wpAny_call_entry PySem.F.slot_dict_itemiterator_next ty PySem.F.entry_dict_itemiterator_next ?_ (PySem.F.args_dict_itemiterator_next_1 _))))
  refine wpAny_bind (wpAny_pure ?_); refine wpAny_bind ?_; refine wpAny_bind ?_
  first | refine wpAny_bind (wpAny_typeNameOfWhole_itemiter ty (wpAny_pure ?_)) | refine wpAny_bind (wpAny_typeNameOf_itemiter ty (wpAny_pure ?_))
  refine wpAny_bind (wpAny_fieldsOf hit rfl ?_)
  have ow : Builtin.Dict_items.ownsTuple "dict_itemiterator" = true := by decide
  simp only [ow, if_true]
  show wpAny _ _ (if (Value.ref d == Value.none) = true then _ else _) _ _ _
  rw [if_neg (show ¬ ((Value.ref d == Value.none) = true) from Bool.false_ne_true)]; refine wpAny_bind (wpAny_pure ?_)
  refine wpAny_bind (wpAny_dictEntries hod hdd ?_); rw [if_neg (by simp)]; refine wpAny_bind (wpAny_pure ?_)
  refine wpAny_bind (wpAny_dictEpoch hod hdd ?_); rw [if_neg (by simp)]; refine wpAny_pure ?_
  simp only [show ¬ ((i : Int) < 0) from by omega, if_false, Int.toNat_natCast, Array.getElem?_eq_getElem hi]
  refine wpAny_bind ?_
  first | refine wpAny_bind (wpAny_typeNameOfWhole_itemiter ty (wpAny_pure ?_)) | refine wpAny_bind (wpAny_typeNameOf_itemiter ty (wpAny_pure ?_))
  refine wpAny_bind (wpAny_isOneOf_itemiter ty ?_)
  show wpAny _ _ (setField (.ref it) 3 (rawInt ((i : Int) + 1)) >>= _) _ _ ⟨H0, gg, dd, tt, oo⟩
  refine wpAny_bind (wpAny_setField_rec hit (by simp) fun H1 e1 b1 => ?_)
  replace b1 : Heap.SameBut it H0 H1 := b1
  replace e1 : H1.get? it = some (itObj (rawInt a) f d (i + 1) es.size ep kk vv) := by
    have e : ((i + 1 : Nat) : Int) = (i : Int) + 1 := by omega
    unfold itObj; rw [e]; simpa [rawInt] using e1
  have ty1 : Shared.TypeIs ⟨H1, gg, dd, tt, oo⟩ (.ref it) "dict_itemiterator" := ⟨_, e1, rfl⟩
  refine wpAny_bind (wpAny_holding ?_); refine wpAny_bind (wpAny_isOneOf_itemiter ty1 ?_); refine wpAny_bind (wpAny_isOneOf_itemiter ty1 ?_)
  show wpAny _ _ (Builtin.Dict_items.pairFromOwner (.ref it) 6 es[i].key es[i].val) _ _ ⟨H1, gg, dd, tt, oo⟩
  unfold Builtin.Dict_items.pairFromOwner; refine wpAny_bind (wpAny_newTuple ?_)
  have e2 : (H1.push { cls := .type "tuple", data := .seq #[es[i].key, es[i].val] }).get? it = some (itObj (rawInt a) f d (i + 1) es.size ep kk vv) := Heap.get?_push_of_some _ e1
  generalize gh : H1.push { cls := .type "tuple", data := .seq #[es[i].key, es[i].val] } = H2 at e2
  have z1 : H1.objs.size = H0.objs.size := b1.1
  have lt : it < H0.objs.size := Heap.lt_size hit
  have ne : H0.objs.size ≠ it := Nat.ne_of_gt lt
  have t2 : H2.get? H0.objs.size = some { cls := .type "tuple", data := .seq #[es[i].key, es[i].val] } := by rw [← gh, ← z1]; exact Heap.get?_push_size _ rfl
  have z2 : H2.objs.size = H0.objs.size + 1 := by rw [← gh, Heap.size_push, z1]
  have k2 : ∀ b o, b ≠ it → H0.get? b = some o → H2.get? b = some o := fun b o hb e => by rw [← gh]; exact Heap.get?_push_of_some _ (b1.extBut b o hb e)
  show wpAny _ _ (Builtin.Dict_items.ownedTupleIsFree (.ref it) >>= _) _ _ ⟨H2, gg, dd, tt, oo⟩
  rw [z1]; clear gh e1 b1 ty1 z1 H1
  refine wpAny_bind ?_
  unfold Builtin.Dict_items.ownedTupleIsFree
  refine wpAny_bind (wpAny_field e2 rfl (x := rawInt a) rfl ?_)
  show wpAny _ _ (loadIfAlive ((a : Int).toNat) >>= _) _ _ _
  rw [Int.toNat_natCast]; refine wpAny_bind (alive_any ?_)
  have fin : ∀ (H3 : Heap) k' v' (a' : Addr) f', H3.get? it = some (itObj (rawInt a') f' d (i + 1) es.size ep k' v') → Heap.SameBut it H2 H3 → Q (some (.ref H0.objs.size)) ⟨H3, gg, dd, tt, oo⟩ := fun H3 k' v' a' f' e3 b3 =>
    hQ H3 k' v' a' f' e3 (b3.extBut _ _ ne t2) (by show H3.objs.size = H0.objs.size + 1; rw [b3.1, z2]) fun b o hb e => b3.extBut b o hb (k2 b o hb e)
  show wpAny _ _ (if (H2.get? a).isNone = true then _ else _) _ _ _
  cases h2a : H2.get? a with
  | some oa =>
    simp only [Option.isNone_some, Bool.false_eq_true, if_false]
    refine wpAny_bind (wpAny_field e2 rfl (x := .bool f) rfl ?_)
    cases f with
    | true =>
      rw [if_neg (show ¬ ((Value.bool true != Value.bool true) = true) from Bool.false_ne_true)]; refine wpAny_pure ?_
      simp only [Bool.false_eq_true, if_false]
      exact wpAny_pure (wpAny_pure ⟨_, rfl, wpAny_pure (fin H2 _ _ _ _ e2 (Heap.SameBut.refl _ _))⟩)
    | false =>
      rw [if_pos (show (Value.bool false != Value.bool true) = true from rfl)]
      refine wpAny_bind (wpAny_setField_rec e2 (by simp) fun H3 e3 b3 => ?_)
      replace b3 : Heap.SameBut it H2 H3 := b3
      replace e3 : H3.get? it = some (itObj (rawInt a) true d (i + 1) es.size ep kk vv) := e3
      refine wpAny_pure ?_; simp only [Bool.false_eq_true, if_false]
      exact wpAny_pure (wpAny_pure ⟨_, rfl, wpAny_pure (fin H3 _ _ _ _ e3 b3)⟩)
  | none =>
    simp only [Option.isNone_none, if_true]
    refine wpAny_pure ?_; simp only [if_true]
    refine wpAny_bind (wpAny_field e2 rfl (x := kk) rfl ?_); refine wpAny_bind (wpAny_field e2 rfl (x := vv) rfl ?_)
    refine wpAny_bind (wpAny_setField_rec e2 (by simp) fun H3 e3 b3 => ?_)
    replace b3 : Heap.SameBut it H2 H3 := b3
    replace e3 : H3.get? it = some (itObj (rawInt a) f d (i + 1) es.size ep es[i].key vv) := e3
    refine wpAny_bind (wpAny_setField_rec e3 (by simp) fun H4 e4 b4 => ?_)
    replace b4 : Heap.SameBut it H3 H4 := b4
    replace e4 : H4.get? it = some (itObj (rawInt a) f d (i + 1) es.size ep es[i].key es[i].val) := e4
    refine wpAny_bind (wpAny_setField_rec e4 (by simp) fun H5 e5 b5 => ?_)
    replace b5 : Heap.SameBut it H4 H5 := b5
    replace e5 : H5.get? it = some (itObj (rawInt H0.objs.size) f d (i + 1) es.size ep es[i].key es[i].val) := e5
    refine wpAny_bind (wpAny_setField_rec e5 (by simp) fun H6 e6 b6 => ?_)
    replace b6 : Heap.SameBut it H5 H6 := b6
    replace e6 : H6.get? it = some (itObj (rawInt H0.objs.size) false d (i + 1) es.size ep es[i].key es[i].val) := e6
    refine wpAny_bind (wpAny_letGo (wpAny_pure (wpAny_pure ⟨_, rfl, wpAny_pure (hQ H6 _ _ _ _ e6 ?_ ?_ ?_)⟩)))
    · exact b6.extBut _ _ ne (b5.extBut _ _ ne (b4.extBut _ _ ne (b3.extBut _ _ ne t2)))
    · show H6.objs.size = H0.objs.size + 1; rw [b6.1, b5.1, b4.1, b3.1, z2]
    · exact fun b o hb e => b6.extBut b o hb (b5.extBut b o hb (b4.extBut b o hb (b3.extBut b o hb (k2 b o hb e))))
end
/-! ### what a locked dict holds -/
/-- the entries of a dict's object, in their order -/
def Ents (o : Obj) (ps : List (V × V)) : Prop := o.ExactDict ∧ ∃ es ep, o.data = .dict es ep ∧ es.size = ps.length ∧ ∀ (i : Nat) (p : V × V), ps[i]? = some p → ∃ hi : i < es.size, RelV p.1 es[i].key ∧ RelV p.2 es[i].val
section
variable {X : Cx} {pins : List (Addr × Obj)} {σ : St} {H : Hp} {s : Shared} {d : Addr} {o : Obj}
theorem pairs_at {prog : Program} {w : World} {K : Type} [DecidableEq K] {knd : KeyKind prog w K} {es : List DictEntry} {vs : List (K × Value)} (h : Pairs knd es vs) : es.length = vs.length ∧ ∀ (i : Nat) (k : K) (v : Value), vs[i]? = some (k, v) → ∃ en, es[i]? = some en ∧ knd.is k en.key = true ∧ en.val = v := by
  induction h with
  | nil => exact ⟨rfl, fun i k v e => by simp at e⟩
  | @cons e kv es vs h1 h2 t ih =>
    refine ⟨by simp [ih.1], fun i k v q => ?_⟩
    cases i with
    | zero =>
      simp at q
      subst q
      exact ⟨e, rfl, h1, h2⟩
    | succ i => exact ih.2 i k v (by simpa using q)
theorem ents_K {kvs : List (Key × V)} (I : Inv X pins σ H s) (h : H d = some (.frz o (.dK kvs))) : (d == sysModules) = false ∧ s.heap.get? d = some o ∧ Ents o (kvs.map fun q => (kV q.1, q.2)) := by
  obtain ⟨z1, z2, z3, es, ep, vs, z4, z5, kv, o', es', q1, q2, q3, q4, q5, q6⟩ := I.frzK h
  rw [z2] at q1
  cases q1
  obtain ⟨rfl, _⟩ := dict_ep z4 q3
  refine ⟨z1, z2, z3, es', ep, z4, by simpa using z5, fun i p e => ?_⟩
  rw [List.getElem?_map] at e
  obtain ⟨⟨k, v⟩, e1, rfl⟩ := Option.map_eq_some_iff.mp e
  obtain ⟨u, e2, e3⟩ := L2.kv_get kv e1
  obtain ⟨en, e4, e5, e6⟩ := (pairs_at q5).2 i k u e2
  obtain ⟨hi, e7⟩ := List.getElem?_eq_some_iff.mp e4
  have hi' : i < es'.size := by simpa using hi
  refine ⟨hi', ?_⟩
  have e8 : es'[i] = en := by simpa using e7
  rw [e8, e6]
  exact ⟨relV_key (show keyIs k en.key = true from e5), e3⟩
theorem ents_O {b : Bool} {v : V} (I : Inv X pins σ H s) (h : H d = some (.frz o (.ext (oddP d b v)))) : (d == sysModules) = false ∧ s.heap.get? d = some o ∧ Ents o [(.bl b, v)] := by
  obtain ⟨z1, z2⟩ := I.hok d _ h
  obtain ⟨x, _⟩ := z2
  obtain ⟨sy, u, ep, r, o', e1, e2, e3⟩ := x
  rw [z1] at e1
  cases e1
  refine ⟨sy, z1, e2, _, ep, e3, rfl, fun i p e => ?_⟩
  cases i with
  | zero =>
    cases e
    exact ⟨by simp, rfl, r⟩
  | succ i => simp at e
/-! ### the walks -/
/-- the keys, one after the other -/
def Kyr (d : Addr) (o : Obj) (u : HO) (ps : List (V × V)) : It :=
  ⟨fun i H => H d = some (.frz o u) ∧ i < ps.length, fun i H x H' => H' = H ∧ ∃ p, ps[i]? = some p ∧ x = p.1, fun i H => H d = some (.frz o u) ∧ ps.length ≤ i⟩
/-- the pairs, each a new tuple -/
def Itr (d : Addr) (o : Obj) (u : HO) (ps : List (V × V)) : It :=
  ⟨fun i H => H d = some (.frz o u) ∧ i < ps.length, fun i H x H' => ∃ T p, ps[i]? = some p ∧ x = .ref T ∧ H T = none ∧ H' = upd H T (.tup [p.1, p.2]), fun i H => H d = some (.frz o u) ∧ ps.length ≤ i⟩
theorem frz_get {u : HO} (I : Inv X pins σ H s) (h : H d = some (.frz o u)) : s.heap.get? d = some o := (I.hok d _ h).1
variable {P : Program} {w : World} {K : PySem.W.Frag} {tg : Expr} {u : HO} {ps : List (V × V)} {es : Array DictEntry} {ep : Nat}
structure EntsA (o : Obj) (ps : List (V × V)) (es : Array DictEntry) (ep : Nat) : Prop where
  ex : o.ExactDict
  dt : o.data = .dict es ep
  sz : es.size = ps.length
  at_ : ∀ (i : Nat) (p : V × V), ps[i]? = some p → ∃ hi : i < es.size, RelV p.1 es[i].key ∧ RelV p.2 es[i].val
theorem turn_kyr (it : Addr) (Z : EntsA o ps es ep) : Turn P w K tg (Kyr d o u ps) [it] it (fun i h => h.IsKeyIter it d i es.size ep) where
  mem := List.mem_singleton.mpr rfl
  obj := fun i h st b hb => by
    rw [List.mem_singleton.mp hb]
    obtain ⟨oi, e, c, dd⟩ := st
    exact ⟨oi, e, fun v z => by rw [dd] at z; cases z⟩
  keep := fun i h h' st k => st.at fun oi e => k it (List.mem_singleton.mpr rfl) oi e
  item := by
    intro X hP hw hK hc i pins s σ H E I hf st hg
    subst hP hw hK
    obtain ⟨hd, hi⟩ := hg
    obtain ⟨f0, f1, f2, f3, f4, f5⟩ := hf it (List.mem_singleton.mpr rfl)
    obtain ⟨p, hp⟩ : ∃ p, ps[i]? = some p := ⟨ps[i], List.getElem?_eq_getElem hi⟩
    obtain ⟨hlt, r1, r2⟩ := Z.at_ i p hp
    refine wpAny_pyNext_keys_item_raw st ⟨o, frz_get I hd, Z.ex, Z.dt⟩ hlt fun h' st' sb => ?_
    have I1 : Inv X pins σ H { s with heap := h' } := I.turned (t' := s.toks) (fun b o hb e => (sb.2 b (by simpa using hb)).trans e) f0 f1 f3 f4 f5
    obtain ⟨oi, e, cc, dd⟩ := id st'
    exact ⟨_, rfl, go_of (s := { s with heap := h' }) e cc dd (by decide) ⟨p.1, H, I1, r1, ⟨rfl, p, hp, rfl⟩, st', fun b hb => (hf b hb).1⟩⟩
  done := by
    intro X hP hw hK hc i pins s σ H E I hf st hg
    subst hP hw hK
    obtain ⟨hd, hi⟩ := hg
    obtain ⟨f0, f1, f2, f3, f4, f5⟩ := hf it (List.mem_singleton.mpr rfl)
    exact wpAny_pyNext_keys_end_raw (I.ok.hd hc) st ⟨o, frz_get I hd, Z.ex, Z.dt⟩ (by rw [Z.sz]; exact hi) fun h' eb => ⟨rfl, I.turned (t' := s.toks) (fun b o hb e => eb b o hb e) f0 f1 f3 f4 f5⟩
  self := fun A i s Q E st h => wpAny_pyIter_keyiter st h
theorem pair_new {h' : Heap} {T : Addr} {p : V × V} {k v : Value} (hT : h'.get? T = some { cls := .type "tuple", data := .seq #[k, v] }) (r1 : RelV p.1 k) (r2 : RelV p.2 v) {H' : Hp} : ObjOk P w H' h' T (.tup [p.1, p.2]) :=
  ⟨by show 2 ≤ sizeLine; decide, [k, v], .cons r1 (.cons r2 .nil), ⟨_, hT, rfl, _, rfl⟩⟩
/-- pairs to several names -/
theorem turn_itr (it : Addr) (Z : EntsA o ps es ep) {elts : List Expr} {kk : Nat} {tpos : Pos} : Turn P w K (.Tuple elts kk tpos) (Itr d o u ps) [it] it (fun i h => ∃ ok ov, IsItemIter h it d i es.size ep ok ov) where
  mem := List.mem_singleton.mpr rfl
  obj := fun i h st b hb => by
    rw [List.mem_singleton.mp hb]
    obtain ⟨ok, ov, e⟩ := st
    exact ⟨_, e, fun v z => nomatch z⟩
  keep := fun i h h' ⟨ok, ov, e⟩ k => ⟨ok, ov, k it (List.mem_singleton.mpr rfl) _ e⟩
  item := by
    intro X hP hw hK hc i pins s σ H E I hf st hg
    subst hP hw hK
    obtain ⟨hd, hi⟩ := hg
    obtain ⟨p, hp⟩ : ∃ p, ps[i]? = some p := ⟨ps[i], List.getElem?_eq_getElem hi⟩
    obtain ⟨hlt, r1, r2⟩ := Z.at_ i p hp
    obtain ⟨ok, ov, he⟩ := st
    have lt := Heap.lt_size he
    refine wpAny_pyNext_items_item_raw he ⟨o, frz_get I hd, Z.ex, Z.dt⟩ hlt fun h' ho hT hz hk => ⟨_, rfl, wpAny_letOwnedTupleGo_items (s := { s with heap := h' }) ho fun h'' he' sb => ?_⟩
    have new : ObjOk X.prog X.w (upd H s.heap.objs.size (.tup [p.1, p.2])) h'' s.heap.objs.size (.tup [p.1, p.2]) := pair_new ((sb.2 _ (Nat.ne_of_gt lt)).trans hT) r1 r2
    have I1 : Inv X pins σ (upd H s.heap.objs.size (.tup [p.1, p.2])) { s with heap := h'' } :=
      I.turnedNew (t' := s.toks) (ch := [it]) (fun b ob hb e => (sb.2 b (by simpa using hb)).trans (hk b ob (by simpa using hb) e)) hf (Nat.le_refl _) new
    refine ⟨.ref s.heap.objs.size, _, I1, rfl, ⟨_, p, hp, rfl, I.hok.fresh (Nat.le_refl _), rfl⟩, ⟨_, _, he'⟩, fun b hb => ?_⟩
    rw [List.mem_singleton.mp hb, upd_ne (Nat.ne_of_lt lt)]
    exact (hf it (List.mem_singleton.mpr rfl)).1
  done := by
    intro X hP hw hK hc i pins s σ H E I hf st hg
    subst hP hw hK
    obtain ⟨hd, hi⟩ := hg
    obtain ⟨ok, ov, he⟩ := st
    obtain ⟨f0, f1, f2, f3, f4, f5⟩ := hf it (List.mem_singleton.mpr rfl)
    exact wpAny_pyNext_items_end_raw (I.ok.hd hc) he ⟨o, frz_get I hd, Z.ex, Z.dt⟩ (by rw [Z.sz]; exact hi) fun h' eb => ⟨rfl, I.turned (t' := s.toks) (fun b o hb e => eb b o hb e) f0 f1 f3 f4 f5⟩
  self := fun A i s Q E ⟨_, _, e⟩ h => PySem.W.kcp_self e h
/-- pairs to one name -/
def StN (it d : Addr) (n ep : Nat) (i : Nat) (h : Heap) : Prop := (i = 0 ∧ ∃ ok ov, IsItemIter h it d 0 n ep ok ov) ∨ ∃ (k v : Value) (a : Addr) (f : Bool), h.get? it = some (itObj (rawInt a) f d i n ep k v)
theorem StN.obj {it d : Addr} {n ep i : Nat} {h : Heap} (st : StN it d n ep i h) : ∃ fs, h.get? it = some { cls := .type "dict_itemiterator", dict := none, data := .fields fs, slots := #[] } := by
  rcases st with ⟨_, ok, ov, e⟩ | ⟨k, v, a, f, e⟩ <;> exact ⟨_, e⟩
theorem turn_itn (it : Addr) (Z : EntsA o ps es ep) {x : Str} {tpos : Pos} : Turn P w K (.Name x tpos) (Itr d o u ps) [it] it (StN it d es.size ep) where
  mem := List.mem_singleton.mpr rfl
  obj := fun i h st b hb => by
    rw [List.mem_singleton.mp hb]
    obtain ⟨fs, e⟩ := st.obj
    exact ⟨_, e, fun v z => nomatch z⟩
  keep := fun i h h' st k => by
    rcases st with ⟨e0, ok, ov, e⟩ | ⟨kk, v, a, f, e⟩
    · exact .inl ⟨e0, ok, ov, k it (List.mem_singleton.mpr rfl) _ e⟩
    · exact .inr ⟨kk, v, a, f, k it (List.mem_singleton.mpr rfl) _ e⟩
  item := by
    intro X hP hw hK hc i pins s σ H E I hf st hg
    subst hP hw hK
    obtain ⟨hd, hi⟩ := hg
    obtain ⟨p, hp⟩ : ∃ p, ps[i]? = some p := ⟨ps[i], List.getElem?_eq_getElem hi⟩
    obtain ⟨hlt, r1, r2⟩ := Z.at_ i p hp
    have raw : s.heap.DictRaw d es ep := ⟨o, frz_get I hd, Z.ex, Z.dt⟩
    obtain ⟨fs, hfs⟩ := st.obj
    have lt := Heap.lt_size hfs
    have go : ∀ h' : Heap, StN it d es.size ep (i + 1) h' → h'.get? s.heap.objs.size = some { cls := .type "tuple", data := .seq #[es[i].key, es[i].val] } → (∀ b o, b ≠ it → s.heap.get? b = some o → h'.get? b = some o) →
        ∃ uu, some (Value.ref s.heap.objs.size) = some uu ∧ wpAny (model X.prog X.w) X.A (letOwnedTupleGo (.Name x tpos) (.ref it) uu) (fun _ s2 => ∃ y H', Inv X pins σ H' s2 ∧ RelV y uu ∧ (Itr d o u ps).yld i H y H' ∧ StN it d es.size ep (i + 1) s2.heap ∧ ∀ b ∈ [it], H' b = none) E { s with heap := h' } := fun h' st' hT hk => by
      have I1 : Inv X pins σ (upd H s.heap.objs.size (.tup [p.1, p.2])) { s with heap := h' } :=
        I.turnedNew (t' := s.toks) (ch := [it]) (fun b ob hb e => hk b ob (by simpa using hb) e) hf (Nat.le_refl _) (pair_new hT r1 r2)
      refine ⟨_, rfl, wpAny_pure ⟨.ref s.heap.objs.size, _, I1, rfl, ⟨_, p, hp, rfl, I.hok.fresh (Nat.le_refl _), rfl⟩, st', fun b hb => ?_⟩⟩
      rw [List.mem_singleton.mp hb, upd_ne (Nat.ne_of_lt lt)]
      exact (hf it (List.mem_singleton.mpr rfl)).1
    rcases st with ⟨e0, ok, ov, e⟩ | ⟨kk, v, a, f, e⟩
    · subst e0
      exact wpAny_pyNext_items_item_raw e raw hlt fun h' ho hT hz hk => go h' (.inr ⟨_, _, _, _, ho⟩) hT hk
    · exact next_nm e raw hlt fun h' k' v' a' f' ho hT hz hk => go h' (.inr ⟨_, _, _, _, ho⟩) hT hk
  done := by
    intro X hP hw hK hc i pins s σ H E I hf st hg
    subst hP hw hK
    obtain ⟨hd, hi⟩ := hg
    obtain ⟨f0, f1, f2, f3, f4, f5⟩ := hf it (List.mem_singleton.mpr rfl)
    have raw : s.heap.DictRaw d es ep := ⟨o, frz_get I hd, Z.ex, Z.dt⟩
    rcases st with ⟨e0, ok, ov, e⟩ | ⟨kk, v, a, f, e⟩
    · subst e0
      exact wpAny_pyNext_items_end_raw (I.ok.hd hc) e raw (by rw [Z.sz]; exact hi) fun h' eb => ⟨rfl, I.turned (t' := s.toks) (fun b o hb e => eb b o hb e) f0 f1 f3 f4 f5⟩
    · exact wpAny_pyNext_items_end_out_raw (I.ok.hd hc) e raw (by rw [Z.sz]; exact hi) fun h' eb => ⟨rfl, I.turned (t' := s.toks) (fun b o hb e => eb b o hb e) f0 f1 f3 f4 f5⟩
  self := fun A i s Q E st h => by
    obtain ⟨fs, e⟩ := st.obj
    have ty : s.TypeIs (.ref it) "dict_itemiterator" := ⟨_, e, rfl⟩
    refine wpAny_pyIter_slot ty PySem.F.slot_dict_itemiterator_iter (wpAny_call_entry PySem.F.slot_dict_itemiterator_iter ty entry_dict_itemiterator_iter ?_ (PySem.F.args_dict_itemiterator_iter_1 _))
    exact wpAny_pure ⟨_, rfl, _, _, ⟨_, e, rfl⟩, PySem.F.slot_dict_itemiterator_next.lookup, h⟩
end
end DL
end

section
set_option Elab.async false
set_option linter.all false
set_option autoImplicit false
set_option maxRecDepth 100000
set_option maxHeartbeats 1000000
/-! dicts as values: walked by keys and by pairs, copied, sorted, measured, held against {}; ranges as values; {True: ..} -/
namespace DL
open PySem PySem.Spec L2
/-- a locked dict whose entries we know -/
def LkD (H : Hp) (d : Addr) (o : Obj) (u : HO) (ps : List (V × V)) : Prop :=
  H d = some (.frz o u) ∧ ((∃ kvs, u = .dK kvs ∧ ps = kvs.map fun q => (kV q.1, q.2)) ∨ ∃ b v, u = .ext (oddP d b v) ∧ ps = [(.bl b, v)])
section
variable {X : Cx} {pins : List (Addr × Obj)} {σ : St} {H : Hp} {s : Shared} {d : Addr} {o : Obj} {u : HO} {ps : List (V × V)}
theorem lkD_ents (I : Inv X pins σ H s) (h : LkD H d o u ps) : (d == sysModules) = false ∧ s.heap.get? d = some o ∧ Ents o ps := by
  obtain ⟨h1, ⟨kvs, e1, e2⟩ | ⟨b, v, e1, e2⟩⟩ := h
  · subst e1 e2; exact ents_K I h1
  · subst e1 e2; exact ents_O I h1
variable {tg e : Expr} {td : TE} {apos cpos : Pos}
def iKyr (td : TE) : TI := fun σ H R => td σ H fun x H1 => ∃ d o u ps, x = .ref d ∧ LkD H1 d o u ps ∧ R (Kyr d o u ps) H1
def iItr (td : TE) : TI := fun σ H R => td σ H fun x H1 => ∃ d o u ps, x = .ref d ∧ LkD H1 d o u ps ∧ R (DL.Itr d o u ps) H1
theorem pi_kyr (he : PE X e td) : PI X tg e (iKyr td) := by
  refine ⟨fun pins s σ H R I h => ?_⟩
  refine thn (he.run pins s σ H _ I h) fun v s1 ⟨x, H1, I1, rx, d, o, u, ps, e1, lk, q⟩ => ?_
  subst e1
  cases (show v = Value.ref d from rx)
  obtain ⟨sy, hg, ex, es, ep, dt, sz, at_⟩ := lkD_ents I1 lk
  exact wpAny_pyIter_dict_raw sy ⟨o, hg, ex, dt⟩ (pi_one (tk := s1.toks) I1 _ (turn_kyr _ ⟨ex, dt, sz, at_⟩) ⟨_, Heap.get?_push_size _ rfl, rfl, rfl⟩ q)
/-- a target that takes pairs: several names, or one -/
def PairT (tg : Expr) : Prop := (∃ elts kk tpos, tg = .Tuple elts kk tpos) ∨ ∃ x tpos, tg = .Name x tpos
theorem pi_itr (ht : PairT tg) (he : PE X e td) (hbase : attributeBase e "items" X.env (eval e X.env) = eval e X.env := by rfl) (hline : (apos.endLine == cpos.line) = true := by rfl) : PI X tg (.Call (.Attribute e "items" apos) [] [] cpos) (iItr td) := by
  refine ⟨fun pins s σ H R I h => ?_⟩
  refine wpAny_Call_method (T := "dict") (id := "dict.items") hbase rfl hline PySem.F.plainAttrs_dict PySem.F.slot_dict_items PySem.F.type_dict_items (thn (he.run pins s σ H _ I h) fun v s1 ⟨x, H1, I1, rx, d, o, u, ps, e1, lk, q⟩ => ?_)
  subst e1
  cases (show v = Value.ref d from rx)
  obtain ⟨sy, hg, ex, es, ep, dt, sz, at_⟩ := lkD_ents I1 lk
  have raw : s1.heap.DictRaw d es ep := ⟨o, hg, ex, dt⟩
  refine ⟨raw.typeIs, fun b e => by cases e; exact ⟨o, hg, ex.2.1⟩, ?_⟩
  have I2 : Inv X pins σ H1 { s1 with heap := s1.heap.push { cls := .type "dict_items", data := .fields #[.ref d] } } := I1.kept (t' := s1.toks) fun b ob q => Heap.get?_push_of_some _ q
  have fin : wpAny (model X.prog X.w) X.A (pyIter (.ref s1.heap.objs.size)) (PIE X pins σ tg R) X.xe { s1 with heap := s1.heap.push { cls := .type "dict_items", data := .fields #[.ref d] } } := by
    refine wpAny_pyIter_items_raw (d := d) ⟨_, Heap.get?_push_size _ rfl, rfl, rfl⟩ (raw.at fun o e => Heap.get?_push_of_some _ e) ?_
    rcases ht with ⟨elts, kk, tpos, rfl⟩ | ⟨x, tpos, rfl⟩
    · exact pi_one (tk := s1.toks) I2 _ (turn_itr _ ⟨ex, dt, sz, at_⟩) ⟨.none, .none, Heap.get?_push_size _ rfl⟩ q
    · exact pi_one (tk := s1.toks) I2 _ (turn_itn _ ⟨ex, dt, sz, at_⟩) (.inl ⟨rfl, .none, .none, Heap.get?_push_size _ rfl⟩) q
  show wpAny _ _ (callWith cpos (.builtin "dict.items") [.ref d] [] []) _ X.xe s1
  exact method_meetsIn PySem.F.slot_dict_items PySem.F.entry_dict_items rfl (PySem.evalArgs_none ⟨rfl, raw.typeIs, PySem.F.args_dict_items_1 _, _, meets_dict_items_raw d sy, ⟨⟨_, _, raw⟩, fin⟩⟩)
/-- a range object that is walked -/
def iRgo (td : TE) : TI := fun σ H R => td σ H fun x H1 => ∃ a lo hi, x = .ref a ∧ H1 a = some (.rng lo hi) ∧ (-(2 ^ 62) ≤ lo ∧ lo < 2 ^ 62 ∧ -(2 ^ 62) ≤ hi ∧ hi < 2 ^ 62) ∧ R (L2.Itr lo (hi - lo).toNat) H1
theorem pi_rgo (he : PE X e td) : PI X tg e (iRgo td) := by
  refine ⟨fun pins s σ H R I h => ?_⟩
  refine thn (he.run pins s σ H _ I h) fun v s1 ⟨x, H1, I1, rx, a, lo, hi, e1, ha, ⟨h1, h2, h3, h4⟩, q⟩ => ?_
  subst e1
  cases (show v = Value.ref a from rx)
  obtain ⟨t, u, w, hr⟩ := (show ObjOk X.prog X.w H1 s1.heap a (.rng lo hi) from I1.hok a _ ha)
  refine wpAny_pyIter_range hr (small_one h1 h2 h3 h4) (pi_one (tk := s1.toks) I1 _ (turn_range _ lo (hi - lo).toNat) ?_ q)
  have e1 : lo + ((0 : Nat) : Int) * 1 = lo := by simp
  have e2 : (((hi - lo).toNat : Nat) : Int) - ((0 : Nat) : Int) = Builtin.Range.rangeSize lo hi 1 := by rw [rangeSize_one]; split <;> omega
  show IsRangeIter _ _ (lo + ((0 : Nat) : Int) * 1) ((((hi - lo).toNat : Nat) : Int) - ((0 : Nat) : Int)) 1
  rw [e1, e2]
  exact Heap.get?_push_size _ rfl
end
/-! ### over data -/
/-- a dict's keys and values -/
def dKV : D → Option (List D × List D)
  | .dic ks ds => some (ks.map kD, ds)
  | .odd b d => some ([.bl b], [d])
  | _ => none
theorem lk_zip {ks : List Key} {vs : List V} : ((ks.zip vs).map fun q => (kV q.1, q.2)).map (·.2) = (ks.zip vs).map (·.2) := by rw [List.map_map]; rfl
theorem zip_snd {α β : Type} : ∀ {xs : List α} {ys : List β}, xs.length = ys.length → (xs.zip ys).map (·.2) = ys
  | [], [], _ => rfl
  | _ :: xs, _ :: ys, h => by
    rw [List.zip_cons_cons, List.map_cons, zip_snd (by simpa using h)]
theorem den_lk {K : PySem.W.Frag} {W : Wd} {dr : Option Addr} {F : Hp} {v : V} {x : D} {kd vd : List D} (h : Den K W dr F v x) (e : dKV x = some (kd, vd)) : ∃ d o u ps, v = .ref d ∧ F d = some (.frz o u) ∧ (∀ H, H d = some (.frz o u) → LkD H d o u ps) ∧ Dens K W dr F (ps.map (·.1)) kd ∧ Dens K W dr F (ps.map (·.2)) vd := by
  unfold dKV at e
  split at e
  · cases e
    cases h with
    | @dic a ks vs ds l q r =>
      obtain ⟨o, q⟩ := q
      refine ⟨_, o, _, _, rfl, q, fun H hH => ⟨hH, .inl ⟨_, rfl, rfl⟩⟩, ?_, ?_⟩
      · rw [List.map_map]; exact dens_keys l
      · rw [lk_zip, zip_snd l]; exact r
  · cases e
    cases h with
    | odd q r =>
      obtain ⟨o, q⟩ := q
      exact ⟨_, o, _, _, rfl, q, fun H hH => ⟨hH, .inr ⟨_, _, rfl, rfl⟩⟩, .cons (.bl _) .nil, .cons r .nil⟩
  · cases e
theorem it_kyr {K : PySem.W.Frag} {W : Wd} {dr : Option Addr} {F0 : Hp} {d : Addr} {o : Obj} {u : HO} {ps : List (V × V)} {kd : List D} (h : F0 d = some (.frz o u)) (hd : Dens K W dr F0 (ps.map (·.1)) kd) : ItOk K W dr F0 (Kyr d o u ps) kd := fun fr F H σ ρ n i edr R s => by
  have hH : H d = some (.frz o u) := R.core.sub _ _ (s _ _ h)
  have hl := hd.length
  rw [List.length_map] at hl
  refine ⟨fun x e => ?_, fun e => ⟨hH, by rw [e, ← hl]; exact Nat.le_refl _⟩⟩
  obtain ⟨v, e1, e2⟩ := hd.get e
  rw [List.getElem?_map] at e1
  obtain ⟨p, e3, rfl⟩ := Option.map_eq_some_iff.mp e1
  refine ⟨⟨hH, (List.getElem?_eq_some_iff.mp e3).1⟩, fun y H' ⟨q1, p', q2, q3⟩ => ?_⟩
  subst q1 q3
  rw [e3] at q2
  cases q2
  exact ⟨F, R, Sub.refl _, e2.mono s fun _ z => z⟩
def prsD (kd vd : List D) : List D := (kd.zip vd).map fun z => .tup [z.1, z.2]
theorem it_itr {K : PySem.W.Frag} {W : Wd} {dr : Option Addr} {F0 : Hp} {d : Addr} {o : Obj} {u : HO} {ps : List (V × V)} {kd vd : List D} (h : F0 d = some (.frz o u)) (hk : Dens K W dr F0 (ps.map (·.1)) kd) (hv : Dens K W dr F0 (ps.map (·.2)) vd) : ItOk K W dr F0 (DL.Itr d o u ps) (prsD kd vd) := fun fr F H σ ρ n i edr R s => by
  have hH : H d = some (.frz o u) := R.core.sub _ _ (s _ _ h)
  have h1 := hk.length
  have h2 := hv.length
  rw [List.length_map] at h1 h2
  have hl : (prsD kd vd).length = ps.length := by simp [prsD, ← h1, ← h2]
  refine ⟨fun x e => ?_, fun e => ⟨hH, by rw [e, hl]; exact Nat.le_refl _⟩⟩
  have hi : i < ps.length := by rw [← hl]; exact (List.getElem?_eq_some_iff.mp e).1
  obtain ⟨a, ea⟩ : ∃ a, kd[i]? = some a := ⟨kd[i], List.getElem?_eq_getElem (by omega)⟩
  obtain ⟨b, eb⟩ : ∃ b, vd[i]? = some b := ⟨vd[i], List.getElem?_eq_getElem (by omega)⟩
  have ex : x = .tup [a, b] := by
    unfold prsD at e
    rw [List.getElem?_map, (List.getElem?_zip_eq_some (z := (a, b))).mpr ⟨ea, eb⟩] at e
    cases e
    rfl
  obtain ⟨v, e1, e2⟩ := hk.get ea
  obtain ⟨w, e3, e4⟩ := hv.get eb
  rw [List.getElem?_map] at e1 e3
  obtain ⟨p, e5, rfl⟩ := Option.map_eq_some_iff.mp e1
  obtain ⟨p', e6, rfl⟩ := Option.map_eq_some_iff.mp e3
  rw [e5] at e6
  cases e6
  refine ⟨⟨hH, hi⟩, fun y H' ⟨T, q, q1, q2, q3, q4⟩ => ?_⟩
  subst q2 q4 ex
  rw [e5] at q1
  cases q1
  have s2 : Sub F (upd F T (.tup [p.1, p.2])) := R.core.sub.new q3
  exact ⟨_, R.fresh q3, s2, .tup (SqT.of upd_same) (.cons (e2.mono (s.trans s2) fun _ z => z) (.cons (e4.mono (s.trans s2) fun _ z => z) .nil))⟩
def iKeyD (f : EX) : IX := fun ρ => M.bind (f ρ) fun d => M.opt ((dKV d).map (·.1))
def iItmD (f : EX) : IX := fun ρ => M.bind (f ρ) fun d => M.opt ((dKV d).map fun q => prsD q.1 q.2)
section
variable {X : Cx} {W : Wd} {tg e : Expr} {f : EX} {apos cpos : Pos}
theorem i_key (h : PD X W e f) : PDI X W tg e (iKeyD f) := imp_I (pi_kyr h) fun σ H R ⟨fr, F, ρ, n, r, n', R0, e, k⟩ => by
  rcases r with z | ds
  · exact R0.dE1 e k
  obtain ⟨x, n1, e1, h⟩ := M.bind_ok e
  obtain ⟨h1, h2⟩ := M.opt_ok h
  subst h2
  obtain ⟨⟨kd, vd⟩, h3, rfl⟩ := Option.map_eq_some_iff.mp h1
  refine ⟨fr, F, ρ, n, .ok x, _, R0, e1, fun F1 H1 v R1 s1 d1 => ?_⟩
  obtain ⟨d, o, u, ps, rfl, q1, q2, q3, q4⟩ := den_lk d1 h3
  exact ⟨d, o, u, ps, rfl, q2 _ (R1.core.sub _ _ q1), k F1 H1 _ R1 s1 (it_kyr q1 q3)⟩
theorem i_itm (ht : PairT tg) (h : PD X W e f) (hbase : attributeBase e "items" X.env (eval e X.env) = eval e X.env := by rfl) (hline : (apos.endLine == cpos.line) = true := by rfl) : PDI X W tg (.Call (.Attribute e "items" apos) [] [] cpos) (iItmD f) := imp_I (pi_itr ht h hbase hline) fun σ H R ⟨fr, F, ρ, n, r, n', R0, e, k⟩ => by
  rcases r with z | ds
  · exact R0.dE1 e k
  obtain ⟨x, n1, e1, h⟩ := M.bind_ok e
  obtain ⟨h1, h2⟩ := M.opt_ok h
  subst h2
  obtain ⟨⟨kd, vd⟩, h3, rfl⟩ := Option.map_eq_some_iff.mp h1
  refine ⟨fr, F, ρ, n, .ok x, _, R0, e1, fun F1 H1 v R1 s1 d1 => ?_⟩
  obtain ⟨d, o, u, ps, rfl, q1, q2, q3, q4⟩ := den_lk d1 h3
  exact ⟨d, o, u, ps, rfl, q2 _ (R1.core.sub _ _ q1), k F1 H1 _ R1 s1 (it_itr q1 q3 q4)⟩
/-- a range as a value, walked -/
def dRgo : D → Option (List D)
  | .rng lo hi => if small62 lo && small62 hi then some (rngD lo hi) else none
  | _ => none
def iRgoD (f : EX) : IX := fun ρ => M.bind (f ρ) fun d => M.opt (dRgo d)
theorem i_rgo (h : PD X W e f) : PDI X W tg e (iRgoD f) := imp_I (pi_rgo h) fun σ H R ⟨fr, F, ρ, n, r, n', R0, e, k⟩ => by
  rcases r with z | ds
  · exact R0.dE1 e k
  obtain ⟨x, n1, e1, h⟩ := M.bind_ok e
  obtain ⟨h1, h2⟩ := M.opt_ok h
  subst h2
  refine ⟨fr, F, ρ, n, .ok x, _, R0, e1, fun F1 H1 v R1 s1 d1 => ?_⟩
  unfold dRgo at h1
  split at h1
  · split at h1
    · rename_i hs
      rw [Bool.and_eq_true] at hs
      cases h1
      cases d1 with
      | rng q => exact ⟨_, _, _, rfl, R1.core.sub _ _ q, ⟨(small62_ok hs.1).1, (small62_ok hs.1).2, (small62_ok hs.2).1, (small62_ok hs.2).2⟩, k F1 H1 _ R1 s1 it_rng⟩
    · cases h1
  · cases h1
def dRngV : List D → Option D
  | [.int i, .int j] => some (.rng i j)
  | _ => none
theorem q_rngV {K : PySem.W.Frag} : CallD K W (fun vs H Q => ∃ i j, vs = [V.int i, V.int j] ∧ ∀ p, H p = none → Q (.ref p) (upd H p (.rng i j))) dRngV := by
  intro fr F H σ ρ n xs d vs Q R dx h k
  unfold dRngV at h
  split at h
  · cases h
    cases dx with
    | cons h1 h2 =>
      cases h2 with
      | cons h3 h4 =>
        cases h4; cases h1; cases h3
        exact ⟨_, _, rfl, fun p hp => k _ _ _ (R.fresh hp) (R.core.sub.new hp) (.rng upd_same)⟩
  · cases h
/-! ### len -/
def dLenA : List D → Option D
  | [.dic ks _] => some (.int ks.length)
  | [.rng lo hi] => if small62 lo && small62 hi then some (.int (hi - lo).toNat) else none
  | xs => dLen xs
theorem call_lenA : CallR X (.builtin "len") (fun xs H Q => (∃ x n, xs = [x] ∧ LenV X.K x H n ∧ Q (.int n) H) ∨ (∃ a kvs, xs = [.ref a] ∧ Rd H a (.dK kvs) ∧ Q (.int (kvs.length : Nat)) H) ∨ (∃ a lo hi, xs = [.ref a] ∧ H a = some (.rng lo hi) ∧ (-(2 ^ 62) ≤ lo ∧ lo < 2 ^ 62 ∧ -(2 ^ 62) ≤ hi ∧ hi < 2 ^ 62) ∧ Q (.int ((hi - lo).toNat : Nat)) H)) := by
  intro pins s σ H xs us Q I r h
  rcases h with h | ⟨a, kvs, ex, hd, q⟩ | ⟨a, lo, hi, ex, ha, ⟨h1, h2, h3, h4⟩, q⟩
  · exact call_len pins s σ H xs us Q I r h
  · subst ex
    obtain ⟨u, eu, rx⟩ := vals1 r
    subst eu
    cases rx
    exact d_len I hd fun t s' I' => ⟨.int _, H, I', ⟨_, rfl⟩, q⟩
  · subst ex
    obtain ⟨u, eu, rx⟩ := vals1 r
    subst eu
    cases rx
    obtain ⟨t, u, w, hr⟩ := (show ObjOk X.prog X.w H s.heap a (.rng lo hi) from I.hok a _ ha)
    have e2 : Builtin.Range.rangeSize lo hi 1 = (((hi - lo).toNat : Nat) : Int) := by rw [rangeSize_one]; split <;> omega
    exact call_len_range hr e2 (by omega) ⟨.int _, H, I.tok _, ⟨_, rfl⟩, q⟩
theorem q_lenA {K : PySem.W.Frag} : CallD K W (fun xs H Q => (∃ x n, xs = [x] ∧ LenV K x H n ∧ Q (.int n) H) ∨ (∃ a kvs, xs = [.ref a] ∧ Rd H a (.dK kvs) ∧ Q (.int (kvs.length : Nat)) H) ∨ (∃ a lo hi, xs = [.ref a] ∧ H a = some (.rng lo hi) ∧ (-(2 ^ 62) ≤ lo ∧ lo < 2 ^ 62 ∧ -(2 ^ 62) ≤ hi ∧ hi < 2 ^ 62) ∧ Q (.int ((hi - lo).toNat : Nat)) H)) dLenA := by
  intro fr F H σ ρ n xs d vs Q R dx h k
  unfold dLenA at h
  split at h
  · rename_i ks ds
    cases h
    cases dx with
    | cons h1 h2 =>
      cases h2
      cases h1 with
      | dic l h3 h4 =>
        refine .inr (.inl ⟨_, _, rfl, R.core.sub.rd h3.rd, ?_⟩)
        rw [List.length_zip, ← l, Nat.min_self]
        exact k F H _ R (Sub.refl _) (.int _)
  · split at h
    · rename_i hs
      rw [Bool.and_eq_true] at hs
      cases h
      cases dx with
      | cons h1 h2 =>
        cases h2
        cases h1 with
        | rng q => exact .inr (.inr ⟨_, _, _, rfl, R.core.sub _ _ q, ⟨(small62_ok hs.1).1, (small62_ok hs.1).2, (small62_ok hs.2).1, (small62_ok hs.2).2⟩, k F H _ R (Sub.refl _) (.int _)⟩)
    · cases h
  · exact .inl (q_len fr F H σ ρ n xs d vs Q R dx h k)
/-! ### sorted(d) of numbers -/
def intKs : List Key → Option (List Int)
  | [] => some []
  | .inl i :: r => (intKs r).map (i :: ·)
  | .inr _ :: _ => none
theorem intKs_ok : ∀ {ks : List Key} {js : List Int}, intKs ks = some js → ks = js.map Sum.inl
  | [], _, h => by cases h; rfl
  | .inl i :: r, _, h => by
    obtain ⟨x, h1, rfl⟩ := Option.map_eq_some_iff.mp h
    rw [intKs_ok h1]
    rfl
  | .inr _ :: _, _, h => by cases h
def dSortedD : List D → Option D
  | [.dic ks _] => (match intKs ks with
    | some l => if l.length < 64 then some (.lst ((srt leZ l).map .int)) else none
    | none => none)
  | xs => dSorted xs
theorem call_sortedD2 (hc : X.calm = true) : CallR X (.builtin "sorted") (fun xs H Q => (∃ (a : Addr) (kvs : List (Key × V)) (ks : List Int), xs = [.ref a] ∧ Rd H a (.dK kvs) ∧ kvs.map (·.1) = ks.map Sum.inl ∧ ks.length < 64 ∧
    ∀ (ys : List Int) (p : Addr), ys.Perm ks → ys.Pairwise (· ≤ ·) → H p = none → Q (.ref p) (upd H p (.lst (ys.map V.int)))) ∨ (rSortedS X.K xs H Q ∨ rSortedI X.K xs H Q)) := (call_sortedDI hc).or call_sortedA
theorem zip_fst {α β : Type} : ∀ {xs : List α} {ys : List β}, xs.length = ys.length → (xs.zip ys).map (·.1) = xs
  | [], [], _ => rfl
  | _ :: xs, _ :: ys, h => by
    rw [List.zip_cons_cons, List.map_cons, zip_fst (by simpa using h)]
theorem q_sortedD2 {K : PySem.W.Frag} : CallD K W (fun xs H Q => (∃ (a : Addr) (kvs : List (Key × V)) (ks : List Int), xs = [.ref a] ∧ Rd H a (.dK kvs) ∧ kvs.map (·.1) = ks.map Sum.inl ∧ ks.length < 64 ∧
    ∀ (ys : List Int) (p : Addr), ys.Perm ks → ys.Pairwise (· ≤ ·) → H p = none → Q (.ref p) (upd H p (.lst (ys.map V.int)))) ∨ (rSortedS K xs H Q ∨ rSortedI K xs H Q)) dSortedD := by
  intro fr F H σ ρ n xs d vs Q R dx h k
  unfold dSortedD at h
  split at h
  · split at h
    · rename_i l q
      split at h
      · rename_i hl
        cases h
        cases dx with
        | cons h1 h2 =>
          cases h2
          cases h1 with
          | dic l1 h3 h4 =>
            refine .inl ⟨_, _, l, rfl, R.core.sub.rd h3.rd, by rw [zip_fst l1]; exact intKs_ok q, hl, fun ys p hp hs hn => ?_⟩
            have e : ys = srt leZ l := perm_uniq (R := fun a b : Int => leZ a b = true) (fun x y h h' => by have a := of_decide_eq_true h; have b := of_decide_eq_true h'; omega) (hs.imp fun h => decide_eq_true h) (srt_sorted (fun x y => by unfold leZ; simp; omega) (fun x y z h h' => by have a := of_decide_eq_true h; have b := of_decide_eq_true h'; exact decide_eq_true (by omega)) l) (hp.trans (srt_perm leZ l).symm)
            rw [e]
            exact put_lst R (dens_ints _) k p hn
      · cases h
    · cases h
  · exact .inr (q_sorted fr F H σ ρ n xs d vs Q R dx h k)
/-! ### what is made and locked at once -/
/-- behind it the new thing is locked -/
def LkQ (Q : VK) : VK := fun v H1 => ∃ d u, H1 d = some u ∧ Mut (some u) ∧ ∀ od, Q v (upd H1 d (.frz od u))
def CallDL (K : PySem.W.Frag) (W : Wd) (r : List V → Hp → VK → Prop) (op : List D → Option D) : Prop := ∀ (fr : Fr) (F H : Hp) (σ : St) (ρ : DL.Env) (n : Int) (xs : List D) (d : D) (vs : List V) (Q : VK), Rel K W fr F H σ ρ n → Dens K W fr.dr F vs xs → op xs = some d →
  (∀ F' H' w, Rel K W fr F' H' σ ρ n → Sub F F' → Den K W fr.dr F' w d → Q w H') → r vs H (LkQ Q)
theorem tCB_ofL {r : List V → Hp → VK → Prop} {op : List D → Option D} {f : EXs} (hd : CallDL X.K W r op) {σ : St} {H : Hp} {Q : VK} (h : tD X W (eB op f) σ H Q) : tPostE (tCB r (tDs X W f)) σ H Q := by
  obtain ⟨fr, F, ρ, n, r, n', R, e, k⟩ := h
  rcases M.bind_any e with ⟨z, e1, rfl⟩ | ⟨xs, n1, e1, h⟩
  · exact ⟨fr, F, ρ, n, .error z, n', R, e1, k⟩
  refine ⟨fr, F, ρ, n, .ok xs, n1, R, e1, fun F1 H1 vs R1 s1 d1 => ?_⟩
  rcases r with z | d
  · exact (M.opt_err h).elim
  obtain ⟨h1, h2⟩ := M.opt_ok h
  subst h2
  exact hd fr F1 H1 σ ρ _ xs d vs Q R1 d1 h1 fun F2 H2 w R2 s2 d2 => k F2 H2 w R2 (s1.trans s2) d2
theorem d_TyL {r : List V → Hp → VK → Prop} {op : List D → Option D} {T : String} {fs : EXs} {x : Str} {p pos : Pos} {e : Expr} {es : List Expr} (hc : CallR X (.type T) r) (hd : CallDL X.K W r op) (hg : Gl X x) (hm : X.mg x = none) (hv : bootBuiltins x = some (.type T)) (ha : PDs X W (e :: es) fs) (hn : x ≠ "__name__" := by decide) (hdb : (x == ("__debug__" : Str)) = false := by decide)
    (he : starEach (e :: es) X.env = (false, eval e X.env) :: starEach es X.env := by rfl) (hpl : (backTo pos (starEach es X.env)).any (·.1) = false := by rfl) : PD X W (.Call (.Name x p) (e :: es) [] pos) (eB op fs) := imp_E (pe_post (pe_callTy hc hg hm hv ha hn hdb he hpl)) fun _ _ _ h => tCB_ofL hd h
/-- a new dict, locked -/
theorem put_dicL {K : PySem.W.Frag} {fr : Fr} {F H : Hp} {σ : St} {ρ : DL.Env} {n : Int} {ks : List Key} {vs : List V} {ds : List D} {Q : VK} (R : Rel K W fr F H σ ρ n) (l : ks.length = vs.length) (r : Dens K W fr.dr F vs ds) (k : ∀ F' H' w, Rel K W fr F' H' σ ρ n → Sub F F' → Den K W fr.dr F' w (.dic ks ds) → Q w H') {p : Addr} (hp : H p = none) : LkQ Q (.ref p) (upd H p (.dK (ks.zip vs))) := by
  refine ⟨p, _, upd_same, trivial, fun od => ?_⟩
  rw [upd_upd]
  have s1 : Sub F (upd F p (.frz od (.dK (ks.zip vs)))) := R.core.sub.new hp
  exact k _ _ _ (R.fresh hp) s1 (.dic l ⟨od, upd_same⟩ (r.mono s1 fun _ z => z))
def pairsD : List D → Option (List (Key × D))
  | [] => some []
  | .tup [a, b] :: r => (match keyD a, pairsD r with
    | some k, some q => some ((k, b) :: q)
    | _, _ => none)
  | _ :: _ => none
def dDictA : List D → Option D
  | [.dic ks ds] => some (.dic ks ds)
  | [.lst xs] => (pairsD xs).map mkDic
  | _ => none
theorem pairs_den {K : PySem.W.Frag} {dr : Option Addr} {F : Hp} : ∀ {xs : List D} {vs : List V} {kvs : List (Key × D)}, Dens K W dr F vs xs → pairsD xs = some kvs → ∃ (as : List Addr) (us : List V), vs = as.map V.ref ∧ us.length = kvs.length ∧ Paired (fun (p : Addr) (kv : Key × V) => SqT K F p [kV kv.1, kv.2]) as ((kvs.map (·.1)).zip us) ∧ Dens K W dr F us (kvs.map (·.2))
  | [], _, _, h, e => by
    cases e; cases h
    exact ⟨[], [], rfl, rfl, .nil, .nil⟩
  | x :: xs, _, _, .cons h1 h2, e => by
    unfold pairsD at e
    split at e
    · rename_i z; cases z
    · rename_i a b r z
      cases z
      split at e
      · rename_i k q e1 e2
        cases e
        obtain ⟨as, us, rfl, l, pr, dn⟩ := pairs_den h2 e2
        cases h1 with
        | tup t1 t2 =>
          cases t2 with
          | cons t3 t4 =>
            cases t4 with
            | cons t5 t6 =>
              cases t6
              have := key_of t3 e1
              subst this
              exact ⟨_ :: as, _ :: us, rfl, by simp [l], .cons t1 pr, .cons t5 dn⟩
      · cases e
    · cases e
theorem paired_imp {α β : Type} {G G' : α → β → Prop} (h : ∀ a b, G a b → G' a b) : ∀ {xs : List α} {ys : List β}, Paired G xs ys → Paired G' xs ys
  | _, _, .nil => .nil
  | _, _, .cons a r => .cons (h _ _ a) (paired_imp h r)
abbrev rDictA (K : PySem.W.Frag) : List V → Hp → VK → Prop := fun xs H Q => (∃ (a : Addr) (kvs : List (Key × V)), xs = [.ref a] ∧ Rd H a (.dK kvs) ∧ ∀ p, H p = none → Q (.ref p) (upd H p (.dK kvs))) ∨ ∃ (a : Addr) (ps : List Addr) (kvs : List (Key × V)), xs = [.ref a] ∧ SqL K H a (ps.map V.ref) ∧ Paired (fun p kv => SqT K H p [kV kv.1, kv.2]) ps kvs ∧ ∀ p, H p = none → Q (.ref p) (upd H p (.dK (mergeK [] kvs)))
theorem call_dictA (hc : X.calm = true) : CallR X (.type "dict") (rDictA X.K) := call_dictD.or (call_dictP hc)
theorem q_dictA {K : PySem.W.Frag} : CallDL K W (rDictA K) dDictA := by
  intro fr F H σ ρ n xs d vs Q R dx h k
  unfold dDictA at h
  split at h
  · cases h
    cases dx with
    | cons h1 h2 =>
      cases h2
      cases h1 with
      | dic l h3 h4 => exact .inl ⟨_, _, rfl, R.core.sub.rd h3.rd, fun p hp => put_dicL R l h4 k hp⟩
  · obtain ⟨kvs, h3, rfl⟩ := Option.map_eq_some_iff.mp h
    cases dx with
    | cons h1 h2 =>
      cases h2
      cases h1 with
      | lst h4 h5 =>
        obtain ⟨as, us, rfl, l, pr, dn⟩ := pairs_den h5 h3
        obtain ⟨vs', q1, q2, q3⟩ := merge_putAll (K := K) (W := W) (ks := []) (vs := []) (ds := []) l dn rfl .nil
        refine .inr ⟨_, as, _, rfl, SqL.of (R.core.sub _ _ h4), paired_imp (fun a b z => R.core.sub.sqT z) pr, fun p hp => ?_⟩
        have q2 : mergeK [] ((kvs.map (·.1)).zip us) = _ := q2
        rw [q2]
        exact put_dicL R q1 q3 k hp
  · cases h
/-- {} -/
theorem d_dic0 {pos : Pos} : PD X W (.Dict [] [] pos) (eC (.dic [] [])) := imp_E (pe_post pe_dnewK) fun σ H Q ⟨fr, F, ρ, n, r, n', R, e, k⟩ => by
  rcases r with z | d
  · exact (M.pure_err e).elim
  obtain ⟨e1, e2⟩ := M.pure_ok e
  subst e1 e2
  exact fun p hp => put_dicL (ks := []) (vs := []) (ds := []) R rfl .nil k hp
/-! ### d == {} -/
def dEq0 : D → Option D
  | .dic ks _ => some (.bl ks.isEmpty)
  | .odd _ _ => some (.bl false)
  | _ => none
def rEq0 : R2 := fun x y H Q => ∃ a p, x = .ref a ∧ y = .ref p ∧ H p = some (.dK []) ∧ ((∃ kvs, Rd H a (.dK kvs) ∧ Q (.bl kvs.isEmpty) H) ∨ ∃ o b v, H a = some (.frz o (.ext (oddP a b v))) ∧ Q (.bl false) H)
theorem op_eq0 (hu : X.A.units < cLine) : OpR X (compareOp .Eq) rEq0 := by
  intro pins s σ H x y v u Q I rx ry h
  obtain ⟨a, p, rfl, rfl, hp, h⟩ := h
  cases (show v = Value.ref a from rx)
  cases (show u = Value.ref p from ry)
  obtain ⟨z1, z2, vs, z3, z4⟩ := dk_of I.hok hp
  cases z3
  rcases h with ⟨kvs, ha, q⟩ | ⟨o, b, w, ha, q⟩
  · obtain ⟨y1, y2, us, y3, y4⟩ := dk_rd I.hok ha
    have hl := y3.length
    refine PySem.W.keq_eq (knd := mixKind X.prog X.w) (r := true) y2 z2 y4 z4 hu (fun hl2 => ?_) ⟨.bl _, H, I, rfl, ?_⟩
    · have : us = [] := List.length_eq_zero_iff.mp (by simpa using hl2)
      subst this
      exact hits_all (kvs := []) .nil (ks := []) .nil (fun _ h => by cases h)
    · have e : (us.length == ([] : List (Key × Value)).length && true) = kvs.isEmpty := by
        cases kvs with
        | nil => rw [← hl]; rfl
        | cons _ _ => rw [← hl]; rfl
      rw [e]
      exact q
  · obtain ⟨g1, ⟨sy, u, ep, ru, o', e1, e2, e3⟩, _⟩ := (show ObjOk X.prog X.w H s.heap a (.frz o (.ext (oddP a b w))) from I.hok a _ ha)
    have d1 : s.heap.DictOf (PpSet.boolK X.prog X.w) a [(b, u)] := by
      refine ⟨o', _, ep, e1, e2, e3, fun e he => ?_, .cons (PpSet.boolK_is _ _ b) rfl .nil, by simp⟩
      have : e = ⟨hashInt (if b = true then 1 else 0), .bool b, u⟩ := by simpa using he
      subst this
      exact ⟨b, PpSet.boolK_is _ _ b, rfl⟩
    have d2 : s.heap.DictOf (PpSet.boolK X.prog X.w) p [] := by
      obtain ⟨o2, es, ep2, f1, f2, f3, f4, f5, f6⟩ := z4
      cases hes : es.toList with
      | nil =>
        have : es = #[] := by apply Array.ext'; simpa using hes
        subst this
        exact ⟨o2, _, ep2, f1, f2, f3, fun e he => by simp at he, .nil, by simp⟩
      | cons _ _ => rw [hes] at f5; cases f5
    exact PySem.W.keq_eq (knd := PpSet.boolK X.prog X.w) (r := true) sy z2 d1 d2 hu (fun hl2 => by simp at hl2) ⟨.bl _, H, I, rfl, q⟩
theorem t_eq0 {a : Expr} {fa : EX} {p2 pos : Pos} (hu : X.A.units + 64 < cLine) (ha : PD X W a fa) (hm : behindInMarks .Eq (.Dict [] [] p2) = false := by rfl) : PDT X W (.Compare a [.Eq] [.Dict [] [] p2] pos) (tB (e1 dEq0 fa)) := imp_T (pt_cmpR (op_eq0 (by omega)) ha pe_dnewK hm) fun σ H Q h => t_test (fun σ H Q ⟨fr, F, ρ, n, r, n', R, e, k⟩ => by
  rcases r with z | d
  · exact R.dE1 e k
  obtain ⟨x, n1, e1, h⟩ := M.bind_ok e
  obtain ⟨h1, h2⟩ := M.opt_ok h
  subst h2
  refine ⟨fr, F, ρ, n, .ok x, _, R, e1, fun F1 H1 v R1 s1 d1 => fun p hp => ?_⟩
  have R2 : Rel X.K W fr F1 (upd H1 p (.dK [])) σ ρ _ := R1.other (R1.core.noF hp) (R1.core.noH0 hp) (R1.core.ndr hp) (R1.noOwn hp) (sd_no hp)
  unfold dEq0 at h1
  split at h1
  · rename_i ks ds
    cases h1
    cases d1 with
    | @dic a _ vs _ l q1 q2 =>
      obtain ⟨o, q1⟩ := q1
      refine ⟨a, p, rfl, rfl, upd_same, .inl ⟨_, .inr ⟨o, R2.core.sub _ _ q1⟩, ?_⟩⟩
      have e : (ks.zip vs).isEmpty = ks.isEmpty := by cases ks <;> cases vs <;> first | rfl | cases l
      rw [e]
      exact k _ _ _ R2 s1 (.bl _)
  · cases h1
    cases d1 with
    | odd q1 q2 =>
      obtain ⟨o, q1⟩ := q1
      exact ⟨_, p, rfl, rfl, upd_same, .inr ⟨o, _, _, R2.core.sub _ _ q1, k _ _ _ R2 s1 (.bl _)⟩⟩
  · cases h1) h
end
end DL
end

section
set_option Elab.async false
set_option linter.all false
set_option autoImplicit false
set_option maxRecDepth 100000
set_option maxHeartbeats 1000000
/-! isinstance of any dict; {True: e} -/
namespace DL
open PySem PySem.Spec L2
def dIsiA (T : String) : D → Option D
  | .odd _ _ => if T = "dict" then some (.bl true) else none
  | d => dIsi T d
section
variable {X : Cx} {W : Wd}
theorem odd_at {pins : List (Addr × Obj)} {σ : St} {H : Hp} {s : Shared} {a : Addr} {o : Obj} {b : Bool} {v : V} (I : Inv X pins σ H s) (h : H a = some (.frz o (.ext (oddP a b v)))) : ∃ o', s.heap.get? a = some o' ∧ o'.cls = .type "dict" := by
  obtain ⟨g1, ⟨sy, u, ep, ru, o', e1, e2, e3⟩, _⟩ := (show ObjOk X.prog X.w H s.heap a (.frz o (.ext (oddP a b v))) from I.hok a _ h)
  exact ⟨o', e1, e2.1⟩
theorem call_isiO : CallR X (.builtin "isinstance") (fun xs H Q => ∃ a o b v, xs = [.ref a, .ty "dict"] ∧ H a = some (.frz o (.ext (oddP a b v))) ∧ Q (.bl true) H) := by
  intro pins s σ H xs us Q I r h
  obtain ⟨a, o, b, v, rfl, ha, q⟩ := h
  obtain ⟨u1, u2, rfl, r1, r2⟩ := vals2 r
  cases (show u1 = Value.ref a from r1)
  cases (show u2 = Value.type "dict" from r2)
  exact PySem.W.kia_one PySem.W.kitx_dict I.kIn (odd_at I ha) (kit_ty (by decide +kernel)) (fun z => nomatch z) fun tk => ⟨.bl true, H, I.tok tk, rfl, q⟩
theorem d_isiA {p tp pos : Pos} {e : Expr} {f : EX} {T : String} {Tn : Str} (hg : Gl X "isinstance") (hm : X.mg "isinstance" = none) (hgT : Gl X Tn) (hmT : X.mg Tn = none) (hvT : bootBuiltins Tn = some (.type T)) (ha : PD X W e f) (hn : Tn ≠ "__name__" := by decide) (hd : (Tn == ("__debug__" : Str)) = false := by decide)
    (he : starEach [e, .Name Tn tp] X.env = (false, eval e X.env) :: starEach [.Name Tn tp] X.env := by rfl) (he2 : starEach [.Name Tn tp] X.env = (false, eval (.Name Tn tp) X.env) :: starEach [] X.env := by rfl) (hpl : (backTo pos (starEach [.Name Tn tp] X.env)).any (·.1) = false := by rfl) :
    PD X W (.Call (.Name "isinstance" p) [e, .Name Tn tp] [] pos) (e1 (dIsiA T) f) :=
  imp_E (pe_callB (call_isi.or call_isiO) hg hm rfl (pa_cons ha (pa_cons (pe_bltn (v := .ty T) hgT hmT hvT rfl hn hd) pa_nil he2) he) (by decide) (by decide) he hpl) fun σ H Q ⟨fr, F, ρ, n, r, n', R, ev, k⟩ => by
    rcases r with z | d
    · exact R.dE1 ev k
    obtain ⟨y, n1, h1, h2⟩ := M.bind_ok ev
    obtain ⟨h3, h4⟩ := M.opt_ok h2
    subst h4
    unfold dIsiA at h3
    split at h3
    · split at h3
      · rename_i hT
        subst hT
        cases h3
        refine ⟨fr, F, ρ, n, .ok _, _, R, h1, fun F1 H1 v R1 s1 d1 => ?_⟩
        cases d1 with
        | odd q1 q2 =>
          obtain ⟨o, q1⟩ := q1
          exact .inr ⟨_, o, _, _, rfl, R1.core.sub _ _ q1, k F1 H1 _ R1 s1 (.bl _)⟩
      · cases h3
    · unfold dIsi at h3
      split at h3
      · split at h3
        · cases h3
          exact ⟨fr, F, ρ, n, .ok y, _, R, h1, fun F1 H1 v R1 s1 d1 => .inl ⟨v, .ty T, _, _, _, rfl, .ty T, ty_of R1.core.sub d1 ‹_›, kit_ty ‹_›, k F1 H1 _ R1 s1 (.bl _)⟩⟩
        · cases h3
      · cases h3
/-! ### {True: e} -/
def tOdd (b : Bool) (tv : TE) : TE := fun σ H Q => ∀ p, H p = none → tv σ (upd H p (.dK [])) fun y H2 => ∃ v, [(V.bl b, y)] = [(V.bl b, v)] ∧ H2 p = some (.dK []) ∧ ∀ od, Q (.ref p) (upd H2 p (.frz od (.ext (oddP p b v))))
theorem empty_B {P : Program} {w : World} {h : Heap} {p : Addr} (z4 : h.DictOf (mixKind P w) p []) : h.DictOf (PpSet.boolK P w) p [] := by
  obtain ⟨o2, es, ep2, f1, f2, f3, f4, f5, f6⟩ := z4
  cases hes : es.toList with
  | nil =>
    have : es = #[] := by apply Array.ext'; simpa using hes
    subst this
    exact ⟨o2, _, ep2, f1, f2, f3, fun e he => by simp at he, .nil, by simp⟩
  | cons _ _ => rw [hes] at f5; cases f5
theorem pe_odd {b : Bool} {j : Nat} {p1 pos : Pos} {ve : Expr} {tv : TE} (hv : PE X ve tv) (hk : PE X (.Constant (.bool b) j p1) (tC (.bl b))) : PE X (.Dict [some (.Constant (.bool b) j p1)] [ve] pos) (tOdd b tv) := by
  refine ⟨fun pins s σ H Q I q => ?_⟩
  have hn := I.hok.fresh (Nat.le_refl s.heap.objs.size)
  have I1 := I.laid (a := s.heap.objs.size) (o := .dK []) (h' := s.heap.push { cls := .type "dict", data := .dict #[] }) (t' := s.toks) (fun _ _ q => Heap.get?_push_of_some _ q) (Nat.le_refl _) (dk_empty s.heap I.big)
  refine wpAny_Dict_walk (knd := PpSet.boolK X.prog X.w) rfl rfl (by simp) (by show 1 ≤ 15; decide) (thn ((pps_cons hk hv pps_nil).run pins _ σ _ (fun ps H2 => ∃ v, ps = [(.bl b, v)] ∧ H2 s.heap.objs.size = some (.dK []) ∧ ∀ od, Q (.ref s.heap.objs.size) (upd H2 s.heap.objs.size (.frz od (.ext (oddP s.heap.objs.size b v))))) I1 ?_) fun ws s2 ⟨ps, H2, I2, rel, v, e, hp, q2⟩ => ?_)
  · exact q _ hn
  · subst e
    cases rel with
    | @cons a c as cs h t =>
      cases t
      obtain ⟨c1, c2⟩ := c
      obtain ⟨h1, h2⟩ := h
      cases (show c1 = Value.bool b from h1)
      obtain ⟨z1, z2, vs, z3, z4⟩ := dk_of I2.hok hp
      cases z3
      refine ⟨[(b, c2)], ⟨PpSet.boolK_is _ _ b, rfl, True.intro⟩, empty_B z4, fun h' dd' hs => ?_⟩
      have dd' : h'.DictOf (PpSet.boolK X.prog X.w) s.heap.objs.size [(b, c2)] := dd'
      obtain ⟨o, es, ep, g1, g2, g3, g4, g5, g6⟩ := dd'
      have hes : es = #[⟨hashInt (if b = true then 1 else 0), .bool b, c2⟩] := by
        cases hl : es.toList with
        | nil => rw [hl] at g5; cases g5
        | cons e r =>
          rw [hl] at g5
          cases g5 with
          | cons k1 k2 k3 =>
            cases k3
            obtain ⟨y, y1, y2⟩ := g4 e (by rw [← Array.mem_toList_iff, hl]; exact List.mem_cons_self)
            have x1 := PpSet.isB_shape (show PpSet.isB b e.key = true from k1)
            have x2 := PpSet.isB_shape (show PpSet.isB y e.key = true from y1)
            rw [x1] at x2
            cases x2
            have : e = ⟨hashInt (if b = true then 1 else 0), .bool b, c2⟩ := by
              cases e
              cases x1
              cases k2
              congr 1
            subst this
            apply Array.ext'
            simpa using hl
      subst hes
      have new : ObjOk X.prog X.w (upd H2 s.heap.objs.size (.ext (oddP s.heap.objs.size b v))) h' s.heap.objs.size (.ext (oddP s.heap.objs.size b v)) :=
        ⟨⟨z2, c2, ep, h2, o, g1, g2, g3⟩, ⟨o, g1⟩, fun h1 h2' ⟨y1, y2, y3, y4, y5⟩ kp => ⟨y1, y2, y3, y4, y5.at kp⟩⟩
      have I3 := d_write (t' := s2.toks + 1) I2 (by rw [hp]; exact True.intro) hs ⟨o, g1⟩ new
      obtain ⟨od, I4⟩ := I3.lock upd_same True.intro
      rw [upd_upd] at I4
      exact ⟨.ref s.heap.objs.size, _, I4, rfl, q2 od⟩
def eOdd (b : Bool) (f : EX) : EX := fun ρ => M.bind (M.calm (f (hide ρ))) fun d => M.pure (.odd b d)
theorem d_odd {b : Bool} {j : Nat} {p1 pos : Pos} {ve : Expr} {f : EX} (hv : PD X W ve f) (hk : PE X (.Constant (.bool b) j p1) (tC (.bl b)) := by exact pe_bl) : PD X W (.Dict [some (.Constant (.bool b) j p1)] [ve] pos) (eOdd b f) :=
  imp_E (pe_odd (dk hv) hk) fun σ H Q ⟨fr, F, ρ, n, r, n', R, e, k⟩ => by
    intro p hp
    have hH0 := R.core.noH0 hp
    have hdr := R.core.ndr hp
    have hno := R.noOwn hp
    have hF := R.core.noF hp
    have R0 : Rel X.K W fr F (upd H p (.dK [])) σ ρ n := R.other hF hH0 hdr hno (sd_no hp)
    have RI : Rel X.K W (fr.at F (upd H p (.dK []))) F (upd H p (.dK [])) σ (hide ρ) n := R0.inner
    rcases r with z | d
    · rcases M.bind_err e with e1 | ⟨x, n1, e1, h1⟩
      · exact (M.calm_err e1).elim
      · exact (M.pure_err h1).elim
    obtain ⟨x, n1, e1, h1⟩ := M.bind_ok e
    obtain ⟨e2, e3⟩ := M.pure_ok h1
    subst e2 e3
    refine ⟨fr.at F (upd H p (.dK [])), F, hide ρ, n, x, _, RI, M.calm_ok e1, fun F1 H1 v R1 s1 d1 => ?_⟩
    have a1 : H1 p = some (.dK []) := R1.core.base p _ (mask_of upd_same) hdr fun z => z
    have f1 : F1 p = none := R1.core.new p _ (mask_of upd_same) hF
    refine ⟨v, rfl, a1, fun od => ?_⟩
    have R2 := R0.back R1.core
    have R3 := R2.other (o := .frz od (.ext (oddP p b v))) f1 hH0 hdr hno (sd_of a1)
    obtain ⟨u1, R4⟩ := R3.addF upd_same f1 hH0 hdr hno
    exact k _ _ _ R4 (s1.trans u1) (.odd ⟨od, upd_same⟩ (d1.mono u1 fun _ z => z))
end
end DL
end

section
set_option Elab.async false
set_option linter.all false
set_option autoImplicit false
set_option maxRecDepth 100000
set_option maxHeartbeats 1000000
/-! list(range(a, b)) as one value -/
namespace DL
open PySem PySem.Spec L2
open PyProof.Rows
section
variable {X : Cx} {W : Wd}
theorem d_lstR2 {a b : Expr} {f g : EX} {p p2 pos pos2 : Pos} (hc : X.calm = true) (hg : Gl X "range") (hm : X.mg "range" = none) (hg2 : Gl X "list") (hm2 : X.mg "list" = none) (ha : PD X W a f) (hb : PD X W b g)
    (na : starEach [a, b] X.env = (false, eval a X.env) :: starEach [b] X.env := by rfl) (nb : starEach [b] X.env = (false, eval b X.env) :: starEach [] X.env := by rfl) (hp : (backTo pos2 (starEach [b] X.env)).any (·.1) = false := by rfl)
    (ne : starEach [.Call (.Name "range" p2) [a, b] [] pos2] X.env = (false, eval (.Call (.Name "range" p2) [a, b] [] pos2) X.env) :: starEach [] X.env := by rfl) : PD X W (.Call (.Name "list" p) [.Call (.Name "range" p2) [a, b] [] pos2] [] pos) (e2 dLstR2 f g) := imp_E (pe_listRg hc hg2 hm2 (prg_2 hg hm ha hb na nb hp) ne) fun σ H Q ⟨fr, F, ρ, n, r, n', R, e, k⟩ => by
  rcases M.bind_any e with ⟨z, h1, rfl⟩ | ⟨x, n1, h1, h⟩
  · exact ⟨fr, F, ρ, n, .error z, n', R, h1, k⟩
  refine ⟨fr, F, ρ, n, .ok x, n1, R, h1, fun F1 H1 v R1 s1 d1 => ?_⟩
  rcases M.bind_any h with ⟨z, h2, rfl⟩ | ⟨y, n2, h2, h3⟩
  · exact ⟨fr, F1, ρ, n1, .error z, n', R1, h2, k.mono s1⟩
  refine ⟨fr, F1, ρ, n1, .ok y, n2, R1, h2, fun F2 H2 w R2 s2 d2 => ?_⟩
  rcases r with z | d
  · exact (M.opt_err h3).elim
  obtain ⟨h4, h5⟩ := M.opt_ok h3
  subst h5
  unfold dLstR2 at h4
  split at h4
  · split at h4
    · rename_i i j q
      cases d1
      cases d2
      cases h4
      exact ⟨_, _, rfl, rfl, rgz_ok q, put_lst R2 (dens_rg i j) fun F' H' v R' s' d' => k F' H' v R' ((s1.trans s2).trans s') d'⟩
    · cases h4
  · cases h4
end
end DL
end

section
set_option Elab.async false
set_option linter.all false
set_option autoImplicit false
set_option maxRecDepth 100000
set_option maxHeartbeats 400000
/-! printed by gen.py -/
namespace P_k73_whole_grades
open PySem PySem.Spec L2 DL
def tr1 : Nat → Option Bool := fun i => if i = 1 then some true else none
def g_Grade___init__ : SX := (sSeq (sUp 0 (uFld 2 "line") (eVar 1))
  (sUp 0 (uFld 2 "against") (eB dDictA (eCons (eVar 2) eNil))))
def f_Grade___init__ : FX := runI 3 3 2 (g_Grade___init__)
def g_is_number : SX := (sRet (eAnd (e1 (dIsi "int") (eVar 0)) (eNot (e1 (dIsi "bool") (eVar 0)))))
def f_is_number : FX := runD 1 1 (g_is_number)
def g_are_sizes : SX := (sRet (eAnd (e1 (dIsi "tuple") (eVar 0)) (eAnd (e2 dEq (eB dLen (eCons (eVar 0) eNil)) (eC (.int 2))) (eB dAll (eCons (eComp [2] (gV 2) (iOf (eVar 0)) tYesD (eAnd (eCall (f_is_number) (eCons (eVar 2) eNil)) (e2 dIn (eVar 2) (eVar 1)))) eNil)))))
def f_are_sizes : FX := runD 3 2 (g_are_sizes)
def g_is_fraction : SX := (sSeq (sIf (tOrD (tNotD (tTru (e1 (dIsi "tuple") (eVar 0)))) (tOrD (tB (e2 dNe (eB dLen (eCons (eVar 0) eNil)) (eC (.int 2)))) (tNotD (tTru (eB dAll (eCons (eComp [1] (gV 1) (iOf (eVar 0)) tYesD (eCall (f_is_number) (eCons (eVar 1) eNil))) eNil)))))) (sRet (eC (.bl false))) sNx)
  (sRet (eAnd (e2 dLeA (eB dAbs (eCons (e2 dIx (eVar 0) (eC (.int 0))) eNil)) (eC (.int 10000))) (eChain dLeA dLeA (eC (.int 1)) (e2 dIx (eVar 0) (eC (.int 1))) (eC (.int 10000))))))
def f_is_fraction : FX := runD 2 1 (g_is_fraction)
def g_check_wanted : SX := (sSeq (sIf (tOrD (tNotD (tTru (e1 (dIsiA "dict") (eVar 0)))) (tB (e1 dEq0 (eVar 0)))) (sRaise 1) sNx)
  (sFor (gT (gsC (gV 1) (gsC (gV 2) gsN))) (iItmD (eVar 0)) (sIf (tOrD (tNotD (tTru (eCall (f_is_number) (eCons (eVar 1) eNil)))) (tOrD (tNotD (tB (eChain dLeA dLeA (eC (.int 0)) (eVar 1) (eC (.int 1000))))) (tNotD (tTru (eCall (f_is_fraction) (eCons (eVar 2) eNil)))))) (sRaise 1) sNx)))
def f_check_wanted : FX := runD 3 1 (g_check_wanted)
def g_worth : SX := (sRet (e2 dAdd (e2 dIx (eVar 0) (eC (.int 0))) (e2 dMul (e2 dIx (eVar 0) (eC (.int 1))) (eVar 1))))
def f_worth : FX := runD 2 2 (g_worth)
def g_distance : SX := (sRet (eTup (eCons (eB dAbs (eCons (e2 dSub (e2 dMul (eCall (f_worth) (eCons (eVar 0) (eCons (eVar 1) eNil))) (e2 dIx (eVar 2) (eC (.int 1)))) (e2 dIx (eVar 2) (eC (.int 0)))) eNil)) (eCons (e2 dIx (eVar 2) (eC (.int 1))) eNil))))
def f_distance : FX := runD 3 3 (g_distance)
def g_is_less : SX := (sRet (e2 dLt (e2 dMul (e2 dIx (eVar 0) (eC (.int 0))) (e2 dIx (eVar 1) (eC (.int 1)))) (e2 dMul (e2 dIx (eVar 1) (eC (.int 0))) (e2 dIx (eVar 0) (eC (.int 1))))))
def f_is_less : FX := runD 2 2 (g_is_less)
def g_greatest : SX := (sSeq (sAsg (gV 2) (eTup (eCons (eC (.int 0)) (eCons (eC (.int 1)) eNil))))
  (sSeq (sFor (gT (gsC (gV 3) (gsC (gV 4) gsN))) (iItmD (eVar 1)) (sSeq (sAsg (gV 5) (eCall (f_distance) (eCons (eVar 0) (eCons (eVar 3) (eCons (eVar 4) eNil)))))
  (sAsg (gV 2) (eIf (tTru (eCall (f_is_less) (eCons (eVar 2) (eCons (eVar 5) eNil)))) (eVar 5) (eVar 2)))))
  (sRet (eVar 2))))
def f_greatest : FX := runD 6 2 (g_greatest)
def g_is_line : SX := (sSeq (sIf (tOrD (tNotD (tTru (e1 (dIsi "tuple") (eVar 0)))) (tB (e2 dNe (eB dLen (eCons (eVar 0) eNil)) (eC (.int 2))))) (sRet (eC (.bl false))) sNx)
  (sSeq (sIf (tOrD (tNotD (tTru (eCall (f_is_number) (eCons (e2 dIx (eVar 0) (eC (.int 0))) eNil)))) (tNotD (tTru (eCall (f_is_number) (eCons (e2 dIx (eVar 0) (eC (.int 1))) eNil))))) (sRet (eC (.bl false))) sNx)
  (sRet (eAnd (e2 dLeA (eB dAbs (eCons (e2 dIx (eVar 0) (eC (.int 0))) eNil)) (eC (.int 99))) (e2 dLeA (eB dAbs (eCons (e2 dIx (eVar 0) (eC (.int 1))) eNil)) (eC (.int 9)))))))
def f_is_line : FX := runD 1 1 (g_is_line)
def g_extremes : SX := (sSeq (sAsg (gT (gsC (gV 2) (gsC (gV 3) gsN))) (eTup (eCons (eC .non) (eCons (eC .non) eNil))))
  (sSeq (sFor (gV 4) (iOf (eB dSortedD (eCons (eVar 0) eNil))) (sSeq (sAsg (gV 5) (e2 dIxA (eVar 0) (eVar 4)))
  (sSeq (sAsg (gV 6) (eTup (eCons (e2 dSub (e2 dIx (eVar 5) (eC (.int 0))) (e2 dMul (e2 dMul (eVar 1) (eVar 4)) (e2 dIx (eVar 5) (eC (.int 1))))) (eCons (e2 dIx (eVar 5) (eC (.int 1))) eNil))))
  (sSeq (sIf (tOrD (tB (e1 (fun d => some (.bl (isNon d))) (eVar 2))) (tTru (eCall (f_is_less) (eCons (e2 dIx (eVar 2) (eC (.int 0))) (eCons (eVar 6) eNil))))) (sAsg (gV 2) (eTup (eCons (eVar 6) (eCons (eVar 4) eNil)))) sNx)
  (sIf (tOrD (tB (e1 (fun d => some (.bl (isNon d))) (eVar 3))) (tTru (eCall (f_is_less) (eCons (eVar 6) (eCons (e2 dIx (eVar 3) (eC (.int 0))) eNil))))) (sAsg (gV 3) (eTup (eCons (eVar 6) (eCons (eVar 4) eNil)))) sNx)))))
  (sRet (eTup (eCons (e2 dIx (eVar 2) (eC (.int 1))) (eCons (e2 dIx (eVar 3) (eC (.int 1))) eNil))))))
def f_extremes : FX := runD 7 2 (g_extremes)
def g_rest_of : SX := (sSeq (sAsg (gT (gsC (gV 3) (gsC (gV 4) gsN))) (e2 dIxA (eVar 0) (eVar 2)))
  (sRet (eTup (eCons (e2 dSub (eVar 3) (e2 dMul (e2 dMul (eVar 1) (eVar 2)) (eVar 4))) (eCons (eVar 4) eNil)))))
def f_rest_of : FX := runD 5 3 (g_rest_of)
def g_nearest_base : SX := (sSeq (sAsg (gT (gsC (gV 2) (gsC (gV 3) gsN))) (eCall (f_extremes) (eCons (eVar 0) (eCons (eVar 1) eNil))))
  (sSeq (sAsg (gT (gsC (gT (gsC (gV 4) (gsC (gV 5) gsN))) (gsC (gT (gsC (gV 6) (gsC (gV 7) gsN))) gsN))) (eTup (eCons (eCall (f_rest_of) (eCons (eVar 0) (eCons (eVar 1) (eCons (eVar 2) eNil)))) (eCons (eCall (f_rest_of) (eCons (eVar 0) (eCons (eVar 1) (eCons (eVar 3) eNil)))) eNil))))
  (sSeq (sAsg (gV 8) (e2 dDiv (e2 dAdd (e2 dMul (eVar 4) (eVar 7)) (e2 dMul (eVar 6) (eVar 5))) (e2 dMul (e2 dMul (eC (.int 2)) (eVar 5)) (eVar 7))))
  (sSeq (sAsg (gV 9) (eComp [10] (gV 10) (iOf (eTup (eCons (eVar 8) (eCons (e2 dAdd (eVar 8) (eC (.int 1))) eNil)))) tYesD (eTup (eCons (eB dMax2 (eCons (e1 dNeg (eC (.int 99))) (eCons (eB dMin2 (eCons (eC (.int 99)) (eCons (eVar 10) eNil))) eNil))) (eCons (eVar 1) eNil)))))
  (sRet (eIf (tTru (eCall (f_is_less) (eCons (eCall (f_greatest) (eCons (e2 dIx (eVar 9) (eC (.int 1))) (eCons (eVar 0) eNil))) (eCons (eCall (f_greatest) (eCons (e2 dIx (eVar 9) (eC (.int 0))) (eCons (eVar 0) eNil))) eNil)))) (e2 dIx (eVar 9) (eC (.int 1))) (e2 dIx (eVar 9) (eC (.int 0)))))))))
def f_nearest_base : FX := runD 11 2 (g_nearest_base)
def g_Grade_shows : SX := (sSeq (sExp (eCall (f_check_wanted) (eCons (eVar 1) eNil)))
  (sSeq (sAsg (gV 2) (eB dRngV (eCons (e1 dNeg (eC (.int 9))) (eCons (e2 dAdd (eC (.int 9)) (eC (.int 1))) eNil))))
  (sSeq (sIf (tOrD (tNotD (tTru (eCall (f_is_line) (eCons (e1 (dFld 2 "line") (eVar 0)) eNil)))) (tB (e2 dNe (eB dLenA (eCons (e1 (dFld 2 "against") (eVar 0)) eNil)) (eB dLenA (eCons (eVar 2) eNil))))) (sRet (eC (.bl false))) sNx)
  (sSeq (sAsg (gV 3) (eCall (f_greatest) (eCons (e1 (dFld 2 "line") (eVar 0)) (eCons (eVar 1) eNil))))
  (sSeq (sFor (gV 4) (iRgoD (eVar 2)) (sSeq (sIf (tOrD (tB (e2 dNi (eVar 4) (e1 (dFld 2 "against") (eVar 0)))) (tNotD (tTru (eCall (f_are_sizes) (eCons (e2 dIxA (e1 (dFld 2 "against") (eVar 0)) (eVar 4)) (eCons (eVar 1) eNil)))))) (sRet (eC (.bl false))) sNx)
  (sSeq (sAsg (gV 5) (eDComp [6] (gV 6) (iOf (e2 dIxA (e1 (dFld 2 "against") (eVar 0)) (eVar 4))) tYesD (eVar 6) (e2 dIxA (eVar 1) (eVar 6))))
  (sIf (tTru (eCall (f_is_less) (eCons (eCall (f_greatest) (eCons (eCall (f_nearest_base) (eCons (eVar 5) (eCons (eVar 4) eNil))) (eCons (eVar 5) eNil))) (eCons (eVar 3) eNil)))) (sRet (eC (.bl false))) sNx))))
  (sRet (eC (.bl true))))))))
def f_Grade_shows : FX := runD 7 2 (g_Grade_shows)
def g__law_far : SX := (sSeq (sAsg (gV 2) (eTup (eCons (eC (.int 0)) (eCons (eC (.int 1)) eNil))))
  (sSeq (sFor (gT (gsC (gV 3) (gsC (gV 4) gsN))) (iItmD (eVar 1)) (sSeq (sAsg (gV 5) (eTup (eCons (eB dAbs (eCons (e2 dSub (e2 dMul (e2 dAdd (e2 dIx (eVar 0) (eC (.int 0))) (e2 dMul (e2 dIx (eVar 0) (eC (.int 1))) (eVar 3))) (e2 dIx (eVar 4) (eC (.int 1)))) (e2 dIx (eVar 4) (eC (.int 0)))) eNil)) (eCons (e2 dIx (eVar 4) (eC (.int 1))) eNil))))
  (sAsg (gV 2) (eIf (tB (e2 dGt (e2 dMul (e2 dIx (eVar 5) (eC (.int 0))) (e2 dIx (eVar 2) (eC (.int 1)))) (e2 dMul (e2 dIx (eVar 2) (eC (.int 0))) (e2 dIx (eVar 5) (eC (.int 1)))))) (eVar 5) (eVar 2)))))
  (sRet (eVar 2))))
def f__law_far : FX := runD 6 2 (g__law_far)
def g__law_less : SX := (sRet (e2 dLt (e2 dMul (e2 dIx (eVar 0) (eC (.int 0))) (e2 dIx (eVar 1) (eC (.int 1)))) (e2 dMul (e2 dIx (eVar 1) (eC (.int 0))) (e2 dIx (eVar 0) (eC (.int 1))))))
def f__law_less : FX := runD 2 2 (g__law_less)
def g__law_least : SX := (sSeq (sAsg (gV 2) (eC .non))
  (sSeq (sFor (gV 3) (iRng2D (eCons (e1 dNeg (eC (.int 99))) (eCons (eC (.int 100)) eNil))) (sSeq (sAsg (gV 4) (eCall (f__law_far) (eCons (eTup (eCons (eVar 3) (eCons (eVar 1) eNil))) (eCons (eVar 0) eNil))))
  (sAsg (gV 2) (eIf (tOrD (tB (e1 (fun d => some (.bl (isNon d))) (eVar 2))) (tTru (eCall (f__law_less) (eCons (eVar 4) (eCons (eVar 2) eNil))))) (eVar 4) (eVar 2)))))
  (sRet (eVar 2))))
def f__law_least : FX := runD 5 2 (g__law_least)
def g__law_number (W : Wd) : SX := (sSeq (sIf (tB (e2 (dScrNil W) (eVar 0) (eLst eNil))) (sRet (eB dInt (eCons (e2 dMod (e2 dAdd (e2 dMul (eVar 1) (eC (.int 48271))) (eC (.int 12345))) (eC (.int 2147483647))) eNil))) sNx)
  (sSeq (sAsg (gV 2) (e2 (dIxS W) (eVar 0) (e2 dMod (eVar 1) (eB (dLenS W) (eCons (eVar 0) eNil)))))
  (sSeq (sIf (tB (e2 dGe (eB dAbs (eCons (eVar 2) eNil)) (e2 dPow (eC (.int 10)) (eC (.int 60))))) (sAsg (gV 2) (e2 dMod (eVar 2) (e2 dPow (eC (.int 10)) (eC (.int 18))))) sNx)
  (sSeq (sAsg (gV 3) (e2 dMod (e2 dAdd (e2 dMul (e2 dAdd (eVar 2) (e2 dMul (eC (.int 977)) (eVar 1))) (eC (.int 48271))) (e2 dMul (eC (.int 31)) (eB (dLenS W) (eCons (eVar 0) eNil)))) (eC (.int 2147483647))))
  (sRet (eB dInt (eCons (e2 dMod (e2 dAdd (e2 dMul (e2 dMod (e2 dMul (eVar 3) (eC (.int 69621))) (eC (.int 2147483629))) (eC (.int 16807))) (eVar 1)) (eC (.int 2147483587))) eNil)))))))
def f__law_number (W : Wd) : FX := runD 4 2 (g__law_number W)
def g__law_take (W : Wd) : SX := (sSeq (sDrw (eVar 0))
  (sRet (e2 dMod (eB dInt (eCons (eCall (f__law_number W) (eCons (eDrw0 (eVar 0)) (eCons (eB dInt (eCons (eDrw1 (eVar 0)) eNil)) eNil))) eNil)) (eVar 1))))
def f__law_take (W : Wd) : FX := runD 2 2 (g__law_take W)
def g_far_by : SX := (sSeq (sExp (eCall (f_check_wanted) (eCons (eVar 1) eNil)))
  (sSeq (sAsg (gV 2) (eTup (eCons (eTup (eCons (e1 dNeg (eC (.int 1))) (eCons (eC (.int 1)) eNil))) (eCons (eC .non) eNil))))
  (sSeq (sFor (gV 3) (iOf (eB dSortedD (eCons (eVar 1) eNil))) (sSeq (sAsg (gV 4) (eCall (f_distance) (eCons (eVar 0) (eCons (eVar 3) (eCons (e2 dIxA (eVar 1) (eVar 3)) eNil)))))
  (sIf (tTru (eCall (f_is_less) (eCons (e2 dIx (eVar 2) (eC (.int 0))) (eCons (eVar 4) eNil)))) (sAsg (gV 2) (eTup (eCons (eVar 4) (eCons (eVar 3) eNil)))) sNx)))
  (sSeq (sAsg (gT (gsC (gV 5) (gsC (gV 6) gsN))) (e2 dIx (eVar 2) (eC (.int 0))))
  (sSeq (sPar [7, 8] (eCons (eVar 5) (eCons (eVar 6) eNil)))
  (sSeq (sWhile (fun _ => 1000000) (tB (e2 dNe (eVar 8) (eC (.int 0)))) (sPar [7, 8] (eCons (eVar 8) (eCons (e2 dMod (eVar 7) (eVar 8)) eNil))))
  (sRet (eTup (eCons (eTup (eCons (e2 dDiv (eVar 5) (eVar 7)) (eCons (e2 dDiv (eVar 6) (eVar 7)) eNil))) (eCons (e2 dIx (eVar 2) (eC (.int 1))) eNil))))))))))
def f_far_by : FX := runD 9 2 (g_far_by)
def g_grade : SX := (sSeq (sExp (eCall (f_check_wanted) (eCons (eVar 0) eNil)))
  (sSeq (sAsg (gV 1) (eComp [5] (gV 5) (iRng2D (eCons (e1 dNeg (eC (.int 9))) (eCons (e2 dAdd (eC (.int 9)) (eC (.int 1))) eNil))) tYesD (eCall (f_nearest_base) (eCons (eVar 0) (eCons (eVar 5) eNil)))))
  (sSeq (sAsg (gV 2) (e2 dIx (eVar 1) (eC (.int 0))))
  (sSeq (sFor (gV 3) (iOf (eVar 1)) (sIf (tTru (eCall (f_is_less) (eCons (eCall (f_greatest) (eCons (eVar 3) (eCons (eVar 0) eNil))) (eCons (eCall (f_greatest) (eCons (eVar 2) (eCons (eVar 0) eNil))) eNil)))) (sAsg (gV 2) (eVar 3)) sNx))
  (sSeq (sAsg (gV 4) (eDComp [3] (gV 3) (iOf (eVar 1)) tYesD (e2 dIx (eVar 3) (eC (.int 1))) (eCall (f_extremes) (eCons (eVar 0) (eCons (e2 dIx (eVar 3) (eC (.int 1))) eNil)))))
  (sRet (eMake 2 (f_Grade___init__) (eCons (eVar 2) (eCons (eVar 4) eNil)))))))))
def f_grade : FX := runD 6 1 (g_grade)
def g_law (W : Wd) : SX := (sSeq (sAsg (gV 2) (eTup (eCons (e2 dSub (eCall (f__law_take W) (eCons (eVar 1) (eCons (eC (.int 40)) eNil))) (eC (.int 10))) (eCons (e2 dSub (eCall (f__law_take W) (eCons (eVar 1) (eCons (eC (.int 13)) eNil))) (eC (.int 5))) eNil))))
  (sSeq (sOwn 3 (.dic [] []))
  (sSeq (sFor (gV 4) (iRng1D (eCons (e2 dAdd (eC (.int 1)) (eCall (f__law_take W) (eCons (eVar 1) (eCons (eC (.int 4)) eNil)))) eNil)) (sSeq (sAsg (gT (gsC (gV 5) (gsC (gV 6) gsN))) (eTup (eCons (eCall (f__law_take W) (eCons (eVar 1) (eCons (eC (.int 9)) eNil))) (eCons (e2 dAdd (eC (.int 1)) (eCall (f__law_take W) (eCons (eVar 1) (eCons (eC (.int 3)) eNil)))) eNil))))
  (sPut 3 (eVar 5) (eTup (eCons (e2 dSub (e2 dAdd (e2 dMul (e2 dAdd (e2 dIx (eVar 2) (eC (.int 0))) (e2 dMul (e2 dIx (eVar 2) (eC (.int 1))) (eVar 5))) (eVar 6)) (eCall (f__law_take W) (eCons (eVar 1) (eCons (eC (.int 9)) eNil)))) (eC (.int 4))) (eCons (eVar 6) eNil))))))
  (sSeq (sIf (tB (e2 dEq (eCall (f__law_take W) (eCons (eVar 1) (eCons (eC (.int 6)) eNil))) (eC (.int 0)))) (sPut 3 (eCall (f__law_take W) (eCons (eVar 1) (eCons (eC (.int 4)) eNil))) (eTup (eCons (eC (.int 10000)) (eCons (e2 dAdd (eC (.int 1)) (eCall (f__law_take W) (eCons (eVar 1) (eCons (eC (.int 60)) eNil)))) eNil)))) sNx)
  (sSeq (sFrz 3) (sSeq (sAsg (gV 7) (eCall (f_grade) (eCons (eVar 3) eNil)))
  (sSeq (sAsg (gV 8) (eCall (f__law_far) (eCons (e1 (dFld 2 "line") (eVar 7)) (eCons (eVar 3) eNil))))
  (sSeq (sIf (tOrD (tNotD (tTru (eMeth 2 "shows" (f_Grade_shows) (eVar 7) (eCons (eVar 3) eNil)))) (tB (e2 dNe (eB dSorted (eCons (eB dLstA (eCons (e1 (dFld 2 "against") (eVar 7)) eNil)) eNil)) (e2 dLstR2 (e1 dNeg (eC (.int 9))) (eC (.int 10)))))) (sRet (eC (.bl false))) sNx)
  (sSeq (sAsg (gV 9) (eLst (eCons (e2 dIx (e1 (dFld 2 "line") (eVar 7)) (eC (.int 1))) (eCons (e2 dIx (eVar 2) (eC (.int 1))) (eCons (e2 dSub (eCall (f__law_take W) (eCons (eVar 1) (eCons (eC (.int 19)) eNil))) (eC (.int 9))) (eCons (e2 dSub (eCall (f__law_take W) (eCons (eVar 1) (eCons (eC (.int 19)) eNil))) (eC (.int 9))) eNil))))))
  (sSeq (sFor (gV 10) (iOf (eVar 9)) (sSeq (sAsg (gT (gsC (gV 11) (gsC (gV 12) gsN))) (e2 dIxA (e1 (dFld 2 "against") (eVar 7)) (eVar 10)))
  (sSeq (sAsg (gV 13) (eB dDictA (eCons (eLst (eCons (eTup (eCons (eVar 11) (eCons (e2 dIxA (eVar 3) (eVar 11)) eNil))) (eCons (eTup (eCons (eVar 12) (eCons (e2 dIxA (eVar 3) (eVar 12)) eNil))) eNil))) eNil)))
  (sIf (tOrD (tTru (eCall (f__law_less) (eCons (eCall (f__law_least) (eCons (eVar 13) (eCons (eVar 10) eNil))) (eCons (eVar 8) eNil)))) (tTru (eCall (f__law_less) (eCons (eCall (f__law_least) (eCons (eVar 3) (eCons (eVar 10) eNil))) (eCons (eVar 8) eNil))))) (sRet (eC (.bl false))) sNx))))
  (sSeq (sAsg (gT (gsC (gV 14) (gsC (gV 5) gsN))) (eCall (f_far_by) (eCons (e1 (dFld 2 "line") (eVar 7)) (eCons (eVar 3) eNil))))
  (sSeq (sIf (tOrD (tB (e2 dNe (e2 dMul (e2 dIx (eVar 14) (eC (.int 0))) (e2 dIx (eVar 8) (eC (.int 1)))) (e2 dMul (e2 dIx (eVar 8) (eC (.int 0))) (e2 dIx (eVar 14) (eC (.int 1)))))) (tB (e2 dNe (e2 dMul (e2 dIx (eCall (f__law_far) (eCons (e1 (dFld 2 "line") (eVar 7)) (eCons (eDisp (((eVar 5), (e2 dIxA (eVar 3) (eVar 5))) :: [])) eNil))) (eC (.int 0))) (e2 dIx (eVar 8) (eC (.int 1)))) (e2 dMul (e2 dIx (eVar 8) (eC (.int 0))) (e2 dIx (eCall (f__law_far) (eCons (e1 (dFld 2 "line") (eVar 7)) (eCons (eDisp (((eVar 5), (e2 dIxA (eVar 3) (eVar 5))) :: [])) eNil))) (eC (.int 1))))))) (sRet (eC (.bl false))) sNx)
  (sSeq (sIf (tTru (eB dAny (eCons (eComp [17] (gV 17) (iKeyD (eVar 3)) (tB (e2 dLt (eVar 17) (eVar 5))) (eNot (eCall (f__law_less) (eCons (eCall (f__law_far) (eCons (e1 (dFld 2 "line") (eVar 7)) (eCons (eDisp (((eVar 17), (e2 dIxA (eVar 3) (eVar 17))) :: [])) eNil))) (eCons (eVar 8) eNil))))) eNil))) (sRet (eC (.bl false))) sNx)
  (sSeq (sPar [11, 15] (eCons (e2 dIx (eVar 14) (eC (.int 1))) (eCons (e2 dIx (eVar 14) (eC (.int 0))) eNil)))
  (sSeq (sFor (gV 4) (iRng1D (eCons (eC (.int 60)) eNil)) (sIf (tB (e2 dNe (eVar 15) (eC (.int 0)))) (sPar [11, 15] (eCons (eVar 15) (eCons (e2 dMod (eB dIntA (eCons (eVar 11) eNil)) (eVar 15)) eNil))) sNx))
  (sSeq (sIf (tOrD (tB (e2 dNe (eVar 11) (eC (.int 1)))) (tB (e2 dLt (e2 dIx (eVar 14) (eC (.int 1))) (eC (.int 1))))) (sRet (eC (.bl false))) sNx)
  (sSeq (sAsg (gV 16) (eTup (eCons (eIf (tB (e2 dLt (e2 dIx (e1 (dFld 2 "line") (eVar 7)) (eC (.int 0))) (eC (.int 90)))) (e2 dAdd (e2 dIx (e1 (dFld 2 "line") (eVar 7)) (eC (.int 0))) (eC (.int 7))) (e2 dSub (e2 dIx (e1 (dFld 2 "line") (eVar 7)) (eC (.int 0))) (eC (.int 7)))) (eCons (e2 dIx (e1 (dFld 2 "line") (eVar 7)) (eC (.int 1))) eNil))))
  (sSeq (sIf (tB (e2 dNe (eMeth 2 "shows" (f_Grade_shows) (eMake 2 (f_Grade___init__) (eCons (eVar 16) (eCons (e1 (dFld 2 "against") (eVar 7)) eNil))) (eCons (eVar 3) eNil)) (eNot (eCall (f__law_less) (eCons (eVar 8) (eCons (eCall (f__law_far) (eCons (eVar 16) (eCons (eVar 3) eNil))) eNil)))))) (sRet (eC (.bl false))) sNx)
  (sSeq (sAsg (gV 10) (e2 dSub (eCall (f__law_take W) (eCons (eVar 1) (eCons (eC (.int 19)) eNil))) (eC (.int 9))))
  (sSeq (sAsg (gV 17) (eB dDictA (eCons (eComp [19] (gV 19) (iItmD (e1 (dFld 2 "against") (eVar 7))) (tB (e2 dNe (e2 dIx (eVar 19) (eC (.int 0))) (eVar 10))) (eVar 19)) eNil)))
  (sSeq (sIf (tTru (eMeth 2 "shows" (f_Grade_shows) (eMake 2 (f_Grade___init__) (eCons (e1 (dFld 2 "line") (eVar 7)) (eCons (eVar 17) eNil))) (eCons (eVar 3) eNil))) (sRet (eC (.bl false))) sNx)
  (sSeq (sFor (gV 18) (iOf (eTup (eCons (eC (.dic [] [])) (eCons (eC .non) (eCons (eDisp (((eC (.int 0)), (eC (.int 5))) :: [])) (eCons (eDisp (((eC (.int 0)), (eTup (eCons (eC (.int 1)) (eCons (eC (.int 0)) eNil)))) :: [])) (eCons (eDisp (((eC (.int 0)), (eTup (eCons (eC (.int 1)) (eCons (e1 dNeg (eC (.int 1))) eNil)))) :: [])) (eCons (eDisp (((e1 dNeg (eC (.int 1))), (eTup (eCons (eC (.int 1)) (eCons (eC (.int 1)) eNil)))) :: [])) (eCons (eDisp (((eC (.int 1001)), (eTup (eCons (eC (.int 1)) (eCons (eC (.int 1)) eNil)))) :: [])) (eCons (eOdd true (eTup (eCons (eC (.int 1)) (eCons (eC (.int 1)) eNil)))) (eCons (eDisp (((eC (.int 0)), (eTup (eCons (eC (.int 10001)) (eCons (eC (.int 1)) eNil)))) :: [])) (eCons (eDisp (((eC (.int 0)), (eTup (eCons (eC (.int 1)) (eCons (eC (.int 1)) (eCons (eC (.int 1)) eNil))))) :: [])) eNil)))))))))))) (sTry tr1 (sSeqX (sExp (eCall (f_grade) (eCons (eVar 18) eNil))) (sRet (eC (.bl false)))) sNx))
  (sRet (eC (.bl true)))))))))))))))))))))))))
end P_k73_whole_grades
namespace P_k73_whole_grades
open PySem PySem.Spec L2 DL
open PyProof.Rows (envOfC)
def top (i : Nat) : Stmt := PySem.Challenge.pw_allstitches_k73_whole_grades.main.body.getD i (.Pass ⟨0, 0, 0, 0⟩)
abbrev s_Grade___init__ : Stmt := inClass (top 19) 0
abbrev N_Grade___init__ : List Str := ["self", "line", "against"]
theorem sc_Grade___init__ : FnScope N_Grade___init__ ["self", "line", "against"] (defScope s_Grade___init__) := ⟨rfl, rfl, rfl, by decide +kernel, rfl, by decide +kernel, by decide +kernel⟩
abbrev s_is_number : Stmt := top 5
abbrev N_is_number : List Str := ["thing"]
theorem sc_is_number : FnScope N_is_number ["thing"] (defScope s_is_number) := ⟨rfl, rfl, rfl, by decide +kernel, rfl, by decide +kernel, by decide +kernel⟩
abbrev s_are_sizes : Stmt := top 20
abbrev N_are_sizes : List Str := ["thing", "wanted", "size"]
theorem sc_are_sizes : FnScope N_are_sizes ["thing", "wanted"] (defScope s_are_sizes) := ⟨rfl, rfl, rfl, by decide +kernel, rfl, by decide +kernel, by decide +kernel⟩
abbrev s_is_fraction : Stmt := top 15
abbrev N_is_fraction : List Str := ["thing", "one"]
theorem sc_is_fraction : FnScope N_is_fraction ["thing"] (defScope s_is_fraction) := ⟨rfl, rfl, rfl, by decide +kernel, rfl, by decide +kernel, by decide +kernel⟩
abbrev s_check_wanted : Stmt := top 14
abbrev N_check_wanted : List Str := ["wanted", "size", "told"]
theorem sc_check_wanted : FnScope N_check_wanted ["wanted"] (defScope s_check_wanted) := ⟨rfl, rfl, rfl, by decide +kernel, rfl, by decide +kernel, by decide +kernel⟩
abbrev s_worth : Stmt := top 10
abbrev N_worth : List Str := ["line", "size"]
theorem sc_worth : FnScope N_worth ["line", "size"] (defScope s_worth) := ⟨rfl, rfl, rfl, by decide +kernel, rfl, by decide +kernel, by decide +kernel⟩
abbrev s_distance : Stmt := top 17
abbrev N_distance : List Str := ["line", "size", "told"]
theorem sc_distance : FnScope N_distance ["line", "size", "told"] (defScope s_distance) := ⟨rfl, rfl, rfl, by decide +kernel, rfl, by decide +kernel, by decide +kernel⟩
abbrev s_is_less : Stmt := top 16
abbrev N_is_less : List Str := ["one", "other"]
theorem sc_is_less : FnScope N_is_less ["one", "other"] (defScope s_is_less) := ⟨rfl, rfl, rfl, by decide +kernel, rfl, by decide +kernel, by decide +kernel⟩
abbrev s_greatest : Stmt := top 18
abbrev N_greatest : List Str := ["line", "wanted", "found", "size", "told", "far"]
theorem sc_greatest : FnScope N_greatest ["line", "wanted"] (defScope s_greatest) := ⟨rfl, rfl, rfl, by decide +kernel, rfl, by decide +kernel, by decide +kernel⟩
abbrev s_is_line : Stmt := top 9
abbrev N_is_line : List Str := ["thing"]
theorem sc_is_line : FnScope N_is_line ["thing"] (defScope s_is_line) := ⟨rfl, rfl, rfl, by decide +kernel, rfl, by decide +kernel, by decide +kernel⟩
abbrev s_extremes : Stmt := top 21
abbrev N_extremes : List Str := ["wanted", "rise", "high", "low", "size", "told", "rest"]
theorem sc_extremes : FnScope N_extremes ["wanted", "rise"] (defScope s_extremes) := ⟨rfl, rfl, rfl, by decide +kernel, rfl, by decide +kernel, by decide +kernel⟩
abbrev s_rest_of : Stmt := top 22
abbrev N_rest_of : List Str := ["wanted", "rise", "size", "above", "below"]
theorem sc_rest_of : FnScope N_rest_of ["wanted", "rise", "size"] (defScope s_rest_of) := ⟨rfl, rfl, rfl, by decide +kernel, rfl, by decide +kernel, by decide +kernel⟩
abbrev s_nearest_base : Stmt := top 23
abbrev N_nearest_base : List Str := ["wanted", "rise", "high", "low", "one", "under", "two", "below", "middle", "lines", "base"]
theorem sc_nearest_base : FnScope N_nearest_base ["wanted", "rise"] (defScope s_nearest_base) := ⟨rfl, rfl, rfl, by decide +kernel, rfl, by decide +kernel, by decide +kernel⟩
abbrev s_Grade_shows : Stmt := inClass (top 19) 1
abbrev N_Grade_shows : List Str := ["self", "wanted", "rises", "least", "rise", "some", "size"]
theorem sc_Grade_shows : FnScope N_Grade_shows ["self", "wanted"] (defScope s_Grade_shows) := ⟨rfl, rfl, rfl, by decide +kernel, rfl, by decide +kernel, by decide +kernel⟩
abbrev s__law_far : Stmt := top 30
abbrev N__law_far : List Str := ["_law_line", "_law_wanted", "_law_best", "_law_size", "_law_told", "_law_far_here"]
theorem sc__law_far : FnScope N__law_far ["_law_line", "_law_wanted"] (defScope s__law_far) := ⟨rfl, rfl, rfl, by decide +kernel, rfl, by decide +kernel, by decide +kernel⟩
abbrev s__law_less : Stmt := top 31
abbrev N__law_less : List Str := ["_law_one", "_law_other"]
theorem sc__law_less : FnScope N__law_less ["_law_one", "_law_other"] (defScope s__law_less) := ⟨rfl, rfl, rfl, by decide +kernel, rfl, by decide +kernel, by decide +kernel⟩
abbrev s__law_least : Stmt := top 32
abbrev N__law_least : List Str := ["_law_wanted", "_law_rise", "_law_best", "_law_base", "_law_far_here"]
theorem sc__law_least : FnScope N__law_least ["_law_wanted", "_law_rise"] (defScope s__law_least) := ⟨rfl, rfl, rfl, by decide +kernel, rfl, by decide +kernel, by decide +kernel⟩
abbrev s__law_number : Stmt := top 27
abbrev N__law_number : List Str := ["_law_script", "_law_index", "_law_cell", "_law_blend"]
theorem sc__law_number : FnScope N__law_number ["_law_script", "_law_index"] (defScope s__law_number) := ⟨rfl, rfl, rfl, by decide +kernel, rfl, by decide +kernel, by decide +kernel⟩
abbrev s__law_take : Stmt := top 28
abbrev N__law_take : List Str := ["_law_draw", "_law_many"]
theorem sc__law_take : FnScope N__law_take ["_law_draw", "_law_many"] (defScope s__law_take) := ⟨rfl, rfl, rfl, by decide +kernel, rfl, by decide +kernel, by decide +kernel⟩
abbrev s_far_by : Stmt := top 25
abbrev N_far_by : List Str := ["line", "wanted", "found", "size", "far", "above", "below", "one", "two"]
theorem sc_far_by : FnScope N_far_by ["line", "wanted"] (defScope s_far_by) := ⟨rfl, rfl, rfl, by decide +kernel, rfl, by decide +kernel, by decide +kernel⟩
abbrev s_grade : Stmt := top 24
abbrev N_grade : List Str := ["wanted", "lines", "best", "line", "against", "rise"]
theorem sc_grade : FnScope N_grade ["wanted"] (defScope s_grade) := ⟨rfl, rfl, rfl, by decide +kernel, rfl, by decide +kernel, by decide +kernel⟩
abbrev s_law : Stmt := top 33
abbrev N_law : List Str := ["_law_script", "_law_draw", "_law_line", "_law_wanted", "_law_turn", "_law_size", "_law_below", "_law_told", "_law_far_here", "_law_rises", "_law_rise", "_law_one", "_law_other", "_law_some", "_law_pair", "_law_rest", "_law_worse", "_law_less_here", "_law_bad", "_law_row"]
theorem sc_law : FnScope N_law ["_law_script"] (defScope s_law) := ⟨rfl, rfl, rfl, by decide +kernel, rfl, by decide +kernel, by decide +kernel⟩
structure Txt (K : PySem.W.Frag) (w : World) (mg : Str → Option Value) (W : Wd) : Prop where
  cl2 : Cls K (W.cl 2)
  x1 : XCls K mg "BadTable" (W.cl 1)
  g1 : mg "BadTable" = some (.ref (W.cl 1))
  tr1 : ∀ i b, tr1 i = some b → PySem.W.exmOne K (.ref (W.cl i)) (.ref (W.cl 1)) = some b
  n2_against : NoAttr K (W.cl 2) "against"
  n2_line : NoAttr K (W.cl 2) "line"
  b_abs : mg "abs" = none
  b_all : mg "all" = none
  b_any : mg "any" = none
  b_bool : mg "bool" = none
  b_dict : mg "dict" = none
  b_int : mg "int" = none
  b_isinstance : mg "isinstance" = none
  b_len : mg "len" = none
  b_list : mg "list" = none
  b_max : mg "max" = none
  b_min : mg "min" = none
  b_range : mg "range" = none
  b_sorted : mg "sorted" = none
  b_tuple : mg "tuple" = none
  c_MOST_BASE : ∃ t, mg "MOST_BASE" = some (.int 99 t)
  c_MOST_RISE : ∃ t, mg "MOST_RISE" = some (.int 9 t)
  c_MOST_SIZE : ∃ t, mg "MOST_SIZE" = some (.int 1000 t)
  c_MOST_WANTED : ∃ t, mg "MOST_WANTED" = some (.int 10000 t)
section
variable {P : Program} {w : World} {K : PySem.W.Frag} {mg : Str → Option Value} {base : Heap} {W : Wd}
theorem ok_Grade___init__ {f : Addr} {fd : FuncData} (F : Fun K "__init__" "Grade.__init__" s_Grade___init__ f fd) (T : Txt K w mg W)  : FnOk P w K mg base (CXm W.md P w) 1 f fd ["self", "line", "against"] (spI K W (f_Grade___init__) 2 2) :=
  okI F sc_Grade___init__ rfl fun cdv A outer s H E hr =>
  (S_cons (S_fld (c := 2) T.cl2 T.n2_line (pv 0) (dv 1))
  (S_one (S_fld (c := 2) T.cl2 T.n2_against (pv 0) (d_TyL (call_dictA rfl) q_dictA rfl T.b_dict (by decide +kernel) (ds_cons (dv 2) ds_nil)))))
theorem ok_is_number {f : Addr} {fd : FuncData} (F : Fun K "is_number" "is_number" s_is_number f fd) (T : Txt K w mg W)  : FnOk P w K mg base (CXm W.md P w) 1 f fd ["thing"] (spD K W (f_is_number) 1) :=
  okD F sc_is_number fun cdv A outer s H E hr =>
  (S_one (S_ret (d_and (d_isi rfl T.b_isinstance rfl T.b_int (by decide +kernel) (dv 0)) (d_one (d_not (d_isi rfl T.b_isinstance rfl T.b_bool (by decide +kernel) (dv 0)))))))
theorem ok_are_sizes {f : Addr} {fd : FuncData} (F : Fun K "are_sizes" "are_sizes" s_are_sizes f fd) (T : Txt K w mg W) (G_is_number : Cal W.md P w K mg base "is_number" 1 (spD K W (f_is_number) 1)) : FnOk P w K mg base (CXm W.md P w) 2 f fd ["thing", "wanted"] (spD K W (f_are_sizes) 2) :=
  okD F sc_are_sizes fun cdv A outer s H E hr =>
  (S_one (S_ret (d_and (d_isi rfl T.b_isinstance rfl T.b_tuple (by decide +kernel) (dv 0)) (d_and (d_eq hr.units (d_B call_len q_len rfl T.b_len (by decide +kernel) (ds_cons (dv 0) ds_nil)) d_int) (d_one (d_B (cr_all rfl) q_all rfl T.b_all (by decide +kernel) (ds_cons (d_comp rfl sc_are_sizes.nd (i_of (dv 0)) (blkOk_by (own := [("size", 2)]) (N := N_are_sizes) (sc := defScope s_are_sizes) (by decide +kernel)) (fun _ _ _ _ _ => (pg_name (i := 2) sc_are_sizes.nd rfl (Or.inl rfl))) (q_gV 2) (by decide) (fun _ _ _ _ _ => ts_nil) (fun _ _ _ _ _ => (d_and (c_call G_is_number (hr.mono (by decide)) rfl (ds_cons (dv 2) ds_nil) (al_cons al_nil)) (d_one (d_in (u1 hr.units) (dv 2) (dv 1)))))) ds_nil)))))))
theorem ok_is_fraction {f : Addr} {fd : FuncData} (F : Fun K "is_fraction" "is_fraction" s_is_fraction f fd) (T : Txt K w mg W) (G_is_number : Cal W.md P w K mg base "is_number" 1 (spD K W (f_is_number) 1)) : FnOk P w K mg base (CXm W.md P w) 2 f fd ["thing"] (spD K W (f_is_fraction) 1) :=
  okD F sc_is_fraction fun cdv A outer s H E hr =>
  (S_cons (S_if (t_w (w_or (t_not (t_tru (d_isi rfl T.b_isinstance rfl T.b_tuple (by decide +kernel) (dv 0)))) (w_or (t_ne hr.units (d_B call_len q_len rfl T.b_len (by decide +kernel) (ds_cons (dv 0) ds_nil)) d_int) (w_or1 (t_not (t_tru (d_B (cr_all rfl) q_all rfl T.b_all (by decide +kernel) (ds_cons (d_comp rfl sc_is_fraction.nd (i_of (dv 0)) (blkOk_by (own := [("one", 1)]) (N := N_is_fraction) (sc := defScope s_is_fraction) (by decide +kernel)) (fun _ _ _ _ _ => (pg_name (i := 1) sc_is_fraction.nd rfl (Or.inl rfl))) (q_gV 1) (by decide) (fun _ _ _ _ _ => ts_nil) (fun _ _ _ _ _ => (c_call G_is_number (hr.mono (by decide)) rfl (ds_cons (dv 1) ds_nil) (al_cons al_nil)))) ds_nil)))))))) (S_one (S_ret d_bl)) S_nil)
  (S_one (S_ret (d_and (d_leA (d_B call_abs q_abs rfl T.b_abs (by decide +kernel) (ds_cons (d_ix (dv 0) d_int) ds_nil)) (d_cint rfl T.c_MOST_WANTED)) (d_one (d_chain (op_le.or op_le_str) (op_le.or op_le_str) (q_CA _ _) (q_CA _ _) d_int (d_ix (dv 0) d_int) (d_cint rfl T.c_MOST_WANTED)))))))
theorem ok_check_wanted {f : Addr} {fd : FuncData} (F : Fun K "check_wanted" "check_wanted" s_check_wanted f fd) (T : Txt K w mg W) (G_is_fraction : Cal W.md P w K mg base "is_fraction" 2 (spD K W (f_is_fraction) 1)) (G_is_number : Cal W.md P w K mg base "is_number" 1 (spD K W (f_is_number) 1)) : FnOk P w K mg base (CXm W.md P w) 3 f fd ["wanted"] (spD K W (f_check_wanted) 1) :=
  okD F sc_check_wanted fun cdv A outer s H E hr =>
  (S_cons (S_if (t_w (w_or (t_not (t_tru (d_isiA rfl T.b_isinstance rfl T.b_dict (by decide +kernel) (dv 0)))) (w_or1 (t_eq0 hr.units (dv 0))))) (S_one (S_raise rfl T.x1 rfl)) S_nil)
  (S_one (S_for (L2.passes_of rfl) rfl (i_itm (by first | exact .inl ⟨_, _, _, rfl⟩ | exact .inr ⟨_, _, rfl⟩) (dv 0)) (pg_tup rfl (pgs_cons (pg_name (i := 1) sc_check_wanted.nd rfl (Or.inl rfl)) (pgs_cons (pg_name (i := 2) sc_check_wanted.nd rfl (Or.inl rfl)) pgs_nil))) (q_gT (q_gsC (q_gV 1) (q_gsC (q_gV 2) q_gsN)) (gl_C (gl_C gl_N))) (S_one (S_if (t_w (w_or (t_not (t_tru (c_call G_is_number (hr.mono (by decide)) rfl (ds_cons (dv 1) ds_nil) (al_cons al_nil)))) (w_or (t_not (t_chain (op_le.or op_le_str) (op_le.or op_le_str) (q_CA _ _) (q_CA _ _) d_int (dv 1) (d_cint rfl T.c_MOST_SIZE))) (w_or1 (t_not (t_tru (c_call G_is_fraction (hr.mono (by decide)) rfl (ds_cons (dv 2) ds_nil) (al_cons al_nil)))))))) (S_one (S_raise rfl T.x1 rfl)) S_nil)))))
theorem ok_worth {f : Addr} {fd : FuncData} (F : Fun K "worth" "worth" s_worth f fd) (T : Txt K w mg W)  : FnOk P w K mg base (CXm W.md P w) 1 f fd ["line", "size"] (spD K W (f_worth) 2) :=
  okD F sc_worth fun cdv A outer s H E hr =>
  (S_one (S_ret (d_add (d_ix (dv 0) d_int) (d_mul (d_ix (dv 0) d_int) (dv 1)))))
theorem ok_distance {f : Addr} {fd : FuncData} (F : Fun K "distance" "distance" s_distance f fd) (T : Txt K w mg W) (G_worth : Cal W.md P w K mg base "worth" 1 (spD K W (f_worth) 2)) : FnOk P w K mg base (CXm W.md P w) 2 f fd ["line", "size", "told"] (spD K W (f_distance) 3) :=
  okD F sc_distance fun cdv A outer s H E hr =>
  (S_one (S_ret (d_tup (ds_cons (d_B call_abs q_abs rfl T.b_abs (by decide +kernel) (ds_cons (d_sub (d_mul (c_call G_worth (hr.mono (by decide)) rfl (ds_cons (dv 0) (ds_cons (dv 1) ds_nil)) (al_cons (al_cons al_nil))) (d_ix (dv 2) d_int)) (d_ix (dv 2) d_int)) ds_nil)) (ds_cons (d_ix (dv 2) d_int) ds_nil)))))
theorem ok_is_less {f : Addr} {fd : FuncData} (F : Fun K "is_less" "is_less" s_is_less f fd) (T : Txt K w mg W)  : FnOk P w K mg base (CXm W.md P w) 1 f fd ["one", "other"] (spD K W (f_is_less) 2) :=
  okD F sc_is_less fun cdv A outer s H E hr =>
  (S_one (S_ret (d_lt (d_mul (d_ix (dv 0) d_int) (d_ix (dv 1) d_int)) (d_mul (d_ix (dv 1) d_int) (d_ix (dv 0) d_int)))))
theorem ok_greatest {f : Addr} {fd : FuncData} (F : Fun K "greatest" "greatest" s_greatest f fd) (T : Txt K w mg W) (G_distance : Cal W.md P w K mg base "distance" 2 (spD K W (f_distance) 3)) (G_is_less : Cal W.md P w K mg base "is_less" 1 (spD K W (f_is_less) 2)) : FnOk P w K mg base (CXm W.md P w) 3 f fd ["line", "wanted"] (spD K W (f_greatest) 2) :=
  okD F sc_greatest fun cdv A outer s H E hr =>
  (S_cons (S_asg (d_tup (ds_cons d_int (ds_cons d_int ds_nil))) (pg_name (i := 2) sc_greatest.nd rfl (Or.inl rfl)) (q_gV 2))
  (S_cons (S_for (L2.passes_of rfl) rfl (i_itm (by first | exact .inl ⟨_, _, _, rfl⟩ | exact .inr ⟨_, _, rfl⟩) (dv 1)) (pg_tup rfl (pgs_cons (pg_name (i := 3) sc_greatest.nd rfl (Or.inl rfl)) (pgs_cons (pg_name (i := 4) sc_greatest.nd rfl (Or.inl rfl)) pgs_nil))) (q_gT (q_gsC (q_gV 3) (q_gsC (q_gV 4) q_gsN)) (gl_C (gl_C gl_N))) (S_cons (S_asg (c_call G_distance (hr.mono (by decide)) rfl (ds_cons (dv 0) (ds_cons (dv 3) (ds_cons (dv 4) ds_nil))) (al_cons (al_cons (al_cons al_nil)))) (pg_name (i := 5) sc_greatest.nd rfl (Or.inl rfl)) (q_gV 5))
  (S_one (S_asg (d_if (t_tru (c_call G_is_less (hr.mono (by decide)) rfl (ds_cons (dv 2) (ds_cons (dv 5) ds_nil)) (al_cons (al_cons al_nil)))) (dv 5) (dv 2)) (pg_name (i := 2) sc_greatest.nd rfl (Or.inl rfl)) (q_gV 2)))))
  (S_one (S_ret (dv 2)))))
theorem ok_is_line {f : Addr} {fd : FuncData} (F : Fun K "is_line" "is_line" s_is_line f fd) (T : Txt K w mg W) (G_is_number : Cal W.md P w K mg base "is_number" 1 (spD K W (f_is_number) 1)) : FnOk P w K mg base (CXm W.md P w) 2 f fd ["thing"] (spD K W (f_is_line) 1) :=
  okD F sc_is_line fun cdv A outer s H E hr =>
  (S_cons (S_if (t_w (w_or (t_not (t_tru (d_isi rfl T.b_isinstance rfl T.b_tuple (by decide +kernel) (dv 0)))) (w_or1 (t_ne hr.units (d_B call_len q_len rfl T.b_len (by decide +kernel) (ds_cons (dv 0) ds_nil)) d_int)))) (S_one (S_ret d_bl)) S_nil)
  (S_cons (S_if (t_w (w_or (t_not (t_tru (c_call G_is_number (hr.mono (by decide)) rfl (ds_cons (d_ix (dv 0) d_int) ds_nil) (al_cons al_nil)))) (w_or1 (t_not (t_tru (c_call G_is_number (hr.mono (by decide)) rfl (ds_cons (d_ix (dv 0) d_int) ds_nil) (al_cons al_nil))))))) (S_one (S_ret d_bl)) S_nil)
  (S_one (S_ret (d_and (d_leA (d_B call_abs q_abs rfl T.b_abs (by decide +kernel) (ds_cons (d_ix (dv 0) d_int) ds_nil)) (d_cint rfl T.c_MOST_BASE)) (d_one (d_leA (d_B call_abs q_abs rfl T.b_abs (by decide +kernel) (ds_cons (d_ix (dv 0) d_int) ds_nil)) (d_cint rfl T.c_MOST_RISE))))))))
theorem ok_extremes {f : Addr} {fd : FuncData} (F : Fun K "extremes" "extremes" s_extremes f fd) (T : Txt K w mg W) (G_is_less : Cal W.md P w K mg base "is_less" 1 (spD K W (f_is_less) 2)) : FnOk P w K mg base (CXm W.md P w) 2 f fd ["wanted", "rise"] (spD K W (f_extremes) 2) :=
  okD F sc_extremes fun cdv A outer s H E hr =>
  (S_cons (S_asg (d_tup (ds_cons d_non (ds_cons d_non ds_nil))) (pg_tup rfl (pgs_cons (pg_name (i := 2) sc_extremes.nd rfl (Or.inl rfl)) (pgs_cons (pg_name (i := 3) sc_extremes.nd rfl (Or.inl rfl)) pgs_nil))) (q_gT (q_gsC (q_gV 2) (q_gsC (q_gV 3) q_gsN)) (gl_C (gl_C gl_N))))
  (S_cons (S_for (L2.passes_of rfl) rfl (i_of (d_B (call_sortedD2 rfl) q_sortedD2 rfl T.b_sorted (by decide +kernel) (ds_cons (dv 0) ds_nil))) (pg_name (i := 4) sc_extremes.nd rfl (Or.inl rfl)) (q_gV 4) (S_cons (S_asg (d_ixA hr.units (dv 0) (dv 4)) (pg_name (i := 5) sc_extremes.nd rfl (Or.inl rfl)) (q_gV 5))
  (S_cons (S_asg (d_tup (ds_cons (d_sub (d_ix (dv 5) d_int) (d_mul (d_mul (dv 1) (dv 4)) (d_ix (dv 5) d_int))) (ds_cons (d_ix (dv 5) d_int) ds_nil))) (pg_name (i := 6) sc_extremes.nd rfl (Or.inl rfl)) (q_gV 6))
  (S_cons (S_if (t_w (w_or (t_isN (dv 2)) (w_or1 (t_tru (c_call G_is_less (hr.mono (by decide)) rfl (ds_cons (d_ix (dv 2) d_int) (ds_cons (dv 6) ds_nil)) (al_cons (al_cons al_nil))))))) (S_one (S_asg (d_tup (ds_cons (dv 6) (ds_cons (dv 4) ds_nil))) (pg_name (i := 2) sc_extremes.nd rfl (Or.inl rfl)) (q_gV 2))) S_nil)
  (S_one (S_if (t_w (w_or (t_isN (dv 3)) (w_or1 (t_tru (c_call G_is_less (hr.mono (by decide)) rfl (ds_cons (dv 6) (ds_cons (d_ix (dv 3) d_int) ds_nil)) (al_cons (al_cons al_nil))))))) (S_one (S_asg (d_tup (ds_cons (dv 6) (ds_cons (dv 4) ds_nil))) (pg_name (i := 3) sc_extremes.nd rfl (Or.inl rfl)) (q_gV 3))) S_nil))))))
  (S_one (S_ret (d_tup (ds_cons (d_ix (dv 2) d_int) (ds_cons (d_ix (dv 3) d_int) ds_nil)))))))
theorem ok_rest_of {f : Addr} {fd : FuncData} (F : Fun K "rest_of" "rest_of" s_rest_of f fd) (T : Txt K w mg W)  : FnOk P w K mg base (CXm W.md P w) 1 f fd ["wanted", "rise", "size"] (spD K W (f_rest_of) 3) :=
  okD F sc_rest_of fun cdv A outer s H E hr =>
  (S_cons (S_asg (d_ixA hr.units (dv 0) (dv 2)) (pg_tup rfl (pgs_cons (pg_name (i := 3) sc_rest_of.nd rfl (Or.inl rfl)) (pgs_cons (pg_name (i := 4) sc_rest_of.nd rfl (Or.inl rfl)) pgs_nil))) (q_gT (q_gsC (q_gV 3) (q_gsC (q_gV 4) q_gsN)) (gl_C (gl_C gl_N))))
  (S_one (S_ret (d_tup (ds_cons (d_sub (dv 3) (d_mul (d_mul (dv 1) (dv 2)) (dv 4))) (ds_cons (dv 4) ds_nil))))))
theorem ok_nearest_base {f : Addr} {fd : FuncData} (F : Fun K "nearest_base" "nearest_base" s_nearest_base f fd) (T : Txt K w mg W) (G_extremes : Cal W.md P w K mg base "extremes" 2 (spD K W (f_extremes) 2)) (G_greatest : Cal W.md P w K mg base "greatest" 3 (spD K W (f_greatest) 2)) (G_is_less : Cal W.md P w K mg base "is_less" 1 (spD K W (f_is_less) 2)) (G_rest_of : Cal W.md P w K mg base "rest_of" 1 (spD K W (f_rest_of) 3)) : FnOk P w K mg base (CXm W.md P w) 4 f fd ["wanted", "rise"] (spD K W (f_nearest_base) 2) :=
  okD F sc_nearest_base fun cdv A outer s H E hr =>
  (S_cons (S_asg (c_call G_extremes (hr.mono (by decide)) rfl (ds_cons (dv 0) (ds_cons (dv 1) ds_nil)) (al_cons (al_cons al_nil))) (pg_tup rfl (pgs_cons (pg_name (i := 2) sc_nearest_base.nd rfl (Or.inl rfl)) (pgs_cons (pg_name (i := 3) sc_nearest_base.nd rfl (Or.inl rfl)) pgs_nil))) (q_gT (q_gsC (q_gV 2) (q_gsC (q_gV 3) q_gsN)) (gl_C (gl_C gl_N))))
  (S_cons (S_asg (d_tup (ds_cons (c_call G_rest_of (hr.mono (by decide)) rfl (ds_cons (dv 0) (ds_cons (dv 1) (ds_cons (dv 2) ds_nil))) (al_cons (al_cons (al_cons al_nil)))) (ds_cons (c_call G_rest_of (hr.mono (by decide)) rfl (ds_cons (dv 0) (ds_cons (dv 1) (ds_cons (dv 3) ds_nil))) (al_cons (al_cons (al_cons al_nil)))) ds_nil))) (pg_tup rfl (pgs_cons (pg_tup rfl (pgs_cons (pg_name (i := 4) sc_nearest_base.nd rfl (Or.inl rfl)) (pgs_cons (pg_name (i := 5) sc_nearest_base.nd rfl (Or.inl rfl)) pgs_nil))) (pgs_cons (pg_tup rfl (pgs_cons (pg_name (i := 6) sc_nearest_base.nd rfl (Or.inl rfl)) (pgs_cons (pg_name (i := 7) sc_nearest_base.nd rfl (Or.inl rfl)) pgs_nil))) pgs_nil))) (q_gT (q_gsC (q_gT (q_gsC (q_gV 4) (q_gsC (q_gV 5) q_gsN)) (gl_C (gl_C gl_N))) (q_gsC (q_gT (q_gsC (q_gV 6) (q_gsC (q_gV 7) q_gsN)) (gl_C (gl_C gl_N))) q_gsN)) (gl_C (gl_C gl_N))))
  (S_cons (S_asg (d_div (d_add (d_mul (dv 4) (dv 7)) (d_mul (dv 6) (dv 5))) (d_mul (d_mul d_int (dv 5)) (dv 7))) (pg_name (i := 8) sc_nearest_base.nd rfl (Or.inl rfl)) (q_gV 8))
  (S_cons (S_setComp (i := 9) rfl sc_nearest_base.nd rfl rfl (sw_true rfl rfl rfl (by decide +kernel)) (i_of (d_tup (ds_cons (dv 8) (ds_cons (d_add (dv 8) d_int) ds_nil)))) (blkOk_by (own := [("base", 10)]) (N := N_nearest_base) (sc := defScope s_nearest_base) (by decide +kernel)) (fun _ _ _ _ _ => (pg_name (i := 10) sc_nearest_base.nd rfl (Or.inl rfl))) (q_gV 10) (by decide) (fun _ _ _ _ _ => ts_nil) (fun _ _ _ _ _ => (d_tup (ds_cons (d_B (call_max2 rfl) q_max2 rfl T.b_max (by decide +kernel) (ds_cons (d_neg (d_cint rfl T.c_MOST_BASE)) (ds_cons (d_B (call_min2 rfl) q_min2 rfl T.b_min (by decide +kernel) (ds_cons (d_cint rfl T.c_MOST_BASE) (ds_cons (dv 10) ds_nil))) ds_nil))) (ds_cons (dv 1) ds_nil)))))
  (S_one (S_ret (d_if (t_tru (c_call G_is_less (hr.mono (by decide)) rfl (ds_cons (c_call G_greatest (hr.mono (by decide)) rfl (ds_cons (d_ix (dv 9) d_int) (ds_cons (dv 0) ds_nil)) (al_cons (al_cons al_nil))) (ds_cons (c_call G_greatest (hr.mono (by decide)) rfl (ds_cons (d_ix (dv 9) d_int) (ds_cons (dv 0) ds_nil)) (al_cons (al_cons al_nil))) ds_nil)) (al_cons (al_cons al_nil)))) (d_ix (dv 9) d_int) (d_ix (dv 9) d_int))))))))
theorem ok_Grade_shows {f : Addr} {fd : FuncData} (F : Fun K "shows" "Grade.shows" s_Grade_shows f fd) (T : Txt K w mg W) (G_are_sizes : Cal W.md P w K mg base "are_sizes" 2 (spD K W (f_are_sizes) 2)) (G_check_wanted : Cal W.md P w K mg base "check_wanted" 3 (spD K W (f_check_wanted) 1)) (G_greatest : Cal W.md P w K mg base "greatest" 3 (spD K W (f_greatest) 2)) (G_is_less : Cal W.md P w K mg base "is_less" 1 (spD K W (f_is_less) 2)) (G_is_line : Cal W.md P w K mg base "is_line" 2 (spD K W (f_is_line) 1)) (G_nearest_base : Cal W.md P w K mg base "nearest_base" 4 (spD K W (f_nearest_base) 2)) : FnOk P w K mg base (CXm W.md P w) 5 f fd ["self", "wanted"] (spD K W (f_Grade_shows) 2) :=
  okD F sc_Grade_shows fun cdv A outer s H E hr =>
  (S_cons (S_exp (c_call G_check_wanted (hr.mono (by decide)) rfl (ds_cons (dv 1) ds_nil) (al_cons al_nil)))
  (S_cons (S_asg (d_Ty cr_range2 q_rngV rfl T.b_range (by decide +kernel) (ds_cons (d_neg (d_cint rfl T.c_MOST_RISE)) (ds_cons (d_add (d_cint rfl T.c_MOST_RISE) d_int) ds_nil))) (pg_name (i := 2) sc_Grade_shows.nd rfl (Or.inl rfl)) (q_gV 2))
  (S_cons (S_if (t_w (w_or (t_not (t_tru (c_call G_is_line (hr.mono (by decide)) rfl (ds_cons (d_fld T.cl2 T.n2_line (dv 0)) ds_nil) (al_cons al_nil)))) (w_or1 (t_ne hr.units (d_B call_lenA q_lenA rfl T.b_len (by decide +kernel) (ds_cons (d_fld T.cl2 T.n2_against (dv 0)) ds_nil)) (d_B call_lenA q_lenA rfl T.b_len (by decide +kernel) (ds_cons (dv 2) ds_nil)))))) (S_one (S_ret d_bl)) S_nil)
  (S_cons (S_asg (c_call G_greatest (hr.mono (by decide)) rfl (ds_cons (d_fld T.cl2 T.n2_line (dv 0)) (ds_cons (dv 1) ds_nil)) (al_cons (al_cons al_nil))) (pg_name (i := 3) sc_Grade_shows.nd rfl (Or.inl rfl)) (q_gV 3))
  (S_cons (S_for (L2.passes_of rfl) rfl (i_rgo (dv 2)) (pg_name (i := 4) sc_Grade_shows.nd rfl (Or.inl rfl)) (q_gV 4) (S_cons (S_if (t_w (w_or (t_ni (u1 hr.units) (dv 4) (d_fld T.cl2 T.n2_against (dv 0))) (w_or1 (t_not (t_tru (c_call G_are_sizes (hr.mono (by decide)) rfl (ds_cons (d_ixA hr.units (d_fld T.cl2 T.n2_against (dv 0)) (dv 4)) (ds_cons (dv 1) ds_nil)) (al_cons (al_cons al_nil)))))))) (S_one (S_ret d_bl)) S_nil)
  (S_cons (S_setDComp (i := 5) rfl sc_Grade_shows.nd rfl rfl (sw_trueD rfl rfl rfl (by decide +kernel)) (i_of (d_ixA hr.units (d_fld T.cl2 T.n2_against (dv 0)) (dv 4))) (blkOk_by (own := [("size", 6)]) (N := N_Grade_shows) (sc := defScope s_Grade_shows) (by decide +kernel)) (fun _ _ _ _ _ => (pg_name (i := 6) sc_Grade_shows.nd rfl (Or.inl rfl))) (q_gV 6) (by decide) (fun _ _ _ _ _ => ts_nil) (fun _ _ _ _ _ => (dv 6)) (fun _ _ _ _ _ => (d_ixA hr.units (dv 1) (dv 6))))
  (S_one (S_if (t_tru (c_call G_is_less (hr.mono (by decide)) rfl (ds_cons (c_call G_greatest (hr.mono (by decide)) rfl (ds_cons (c_call G_nearest_base (hr.mono (by decide)) rfl (ds_cons (dv 5) (ds_cons (dv 4) ds_nil)) (al_cons (al_cons al_nil))) (ds_cons (dv 5) ds_nil)) (al_cons (al_cons al_nil))) (ds_cons (dv 3) ds_nil)) (al_cons (al_cons al_nil)))) (S_one (S_ret d_bl)) S_nil)))))
  (S_one (S_ret d_bl)))))))
theorem ok__law_far {f : Addr} {fd : FuncData} (F : Fun K "_law_far" "_law_far" s__law_far f fd) (T : Txt K w mg W)  : FnOk P w K mg base (CXm W.md P w) 1 f fd ["_law_line", "_law_wanted"] (spD K W (f__law_far) 2) :=
  okD F sc__law_far fun cdv A outer s H E hr =>
  (S_cons (S_asg (d_tup (ds_cons d_int (ds_cons d_int ds_nil))) (pg_name (i := 2) sc__law_far.nd rfl (Or.inl rfl)) (q_gV 2))
  (S_cons (S_for (L2.passes_of rfl) rfl (i_itm (by first | exact .inl ⟨_, _, _, rfl⟩ | exact .inr ⟨_, _, rfl⟩) (dv 1)) (pg_tup rfl (pgs_cons (pg_name (i := 3) sc__law_far.nd rfl (Or.inl rfl)) (pgs_cons (pg_name (i := 4) sc__law_far.nd rfl (Or.inl rfl)) pgs_nil))) (q_gT (q_gsC (q_gV 3) (q_gsC (q_gV 4) q_gsN)) (gl_C (gl_C gl_N))) (S_cons (S_asg (d_tup (ds_cons (d_B call_abs q_abs rfl T.b_abs (by decide +kernel) (ds_cons (d_sub (d_mul (d_add (d_ix (dv 0) d_int) (d_mul (d_ix (dv 0) d_int) (dv 3))) (d_ix (dv 4) d_int)) (d_ix (dv 4) d_int)) ds_nil)) (ds_cons (d_ix (dv 4) d_int) ds_nil))) (pg_name (i := 5) sc__law_far.nd rfl (Or.inl rfl)) (q_gV 5))
  (S_one (S_asg (d_if (t_gt (d_mul (d_ix (dv 5) d_int) (d_ix (dv 2) d_int)) (d_mul (d_ix (dv 2) d_int) (d_ix (dv 5) d_int))) (dv 5) (dv 2)) (pg_name (i := 2) sc__law_far.nd rfl (Or.inl rfl)) (q_gV 2)))))
  (S_one (S_ret (dv 2)))))
theorem ok__law_less {f : Addr} {fd : FuncData} (F : Fun K "_law_less" "_law_less" s__law_less f fd) (T : Txt K w mg W)  : FnOk P w K mg base (CXm W.md P w) 1 f fd ["_law_one", "_law_other"] (spD K W (f__law_less) 2) :=
  okD F sc__law_less fun cdv A outer s H E hr =>
  (S_one (S_ret (d_lt (d_mul (d_ix (dv 0) d_int) (d_ix (dv 1) d_int)) (d_mul (d_ix (dv 1) d_int) (d_ix (dv 0) d_int)))))
theorem ok__law_least {f : Addr} {fd : FuncData} (F : Fun K "_law_least" "_law_least" s__law_least f fd) (T : Txt K w mg W) (G__law_far : Cal W.md P w K mg base "_law_far" 1 (spD K W (f__law_far) 2)) (G__law_less : Cal W.md P w K mg base "_law_less" 1 (spD K W (f__law_less) 2)) : FnOk P w K mg base (CXm W.md P w) 2 f fd ["_law_wanted", "_law_rise"] (spD K W (f__law_least) 2) :=
  okD F sc__law_least fun cdv A outer s H E hr =>
  (S_cons (S_asg d_non (pg_name (i := 2) sc__law_least.nd rfl (Or.inl rfl)) (q_gV 2))
  (S_cons (S_for (L2.passes_of rfl) rfl (i_rng2 rfl T.b_range (ds_cons (d_neg d_int) (ds_cons d_int ds_nil))) (pg_name (i := 3) sc__law_least.nd rfl (Or.inl rfl)) (q_gV 3) (S_cons (S_asg (c_call G__law_far (hr.mono (by decide)) rfl (ds_cons (d_tup (ds_cons (dv 3) (ds_cons (dv 1) ds_nil))) (ds_cons (dv 0) ds_nil)) (al_cons (al_cons al_nil))) (pg_name (i := 4) sc__law_least.nd rfl (Or.inl rfl)) (q_gV 4))
  (S_one (S_asg (d_if (t_w (w_or (t_isN (dv 2)) (w_or1 (t_tru (c_call G__law_less (hr.mono (by decide)) rfl (ds_cons (dv 4) (ds_cons (dv 2) ds_nil)) (al_cons (al_cons al_nil))))))) (dv 4) (dv 2)) (pg_name (i := 2) sc__law_least.nd rfl (Or.inl rfl)) (q_gV 2)))))
  (S_one (S_ret (dv 2)))))
theorem ok__law_number {f : Addr} {fd : FuncData} (F : Fun K "_law_number" "_law_number" s__law_number f fd) (T : Txt K w mg W)  : FnOk P w K mg base (CXm W.md P w) 1 f fd ["_law_script", "_law_index"] (spD K W (f__law_number W) 2) :=
  okD F sc__law_number fun cdv A outer s H E hr =>
  (S_cons (S_if (t_scrNil hr.units (dv 0) (d_lst ds_nil)) (S_one (S_ret (d_Ty call_int1 q_int rfl T.b_int (by decide +kernel) (ds_cons (d_mod (d_add (d_mul (dv 1) d_int) d_int) d_int) ds_nil)))) S_nil)
  (S_cons (S_asg (d_ixS (dv 0) (d_mod (dv 1) (d_B call_len q_lenS rfl T.b_len (by decide +kernel) (ds_cons (dv 0) ds_nil)))) (pg_name (i := 2) sc__law_number.nd rfl (Or.inl rfl)) (q_gV 2))
  (S_cons (S_if (t_ge (d_B call_abs q_abs rfl T.b_abs (by decide +kernel) (ds_cons (dv 2) ds_nil)) (d_pow d_int d_int)) (S_one (S_asg (d_mod (dv 2) (d_pow d_int d_int)) (pg_name (i := 2) sc__law_number.nd rfl (Or.inl rfl)) (q_gV 2))) S_nil)
  (S_cons (S_asg (d_mod (d_add (d_mul (d_add (dv 2) (d_mul d_int (dv 1))) d_int) (d_mul d_int (d_B call_len q_lenS rfl T.b_len (by decide +kernel) (ds_cons (dv 0) ds_nil)))) d_int) (pg_name (i := 3) sc__law_number.nd rfl (Or.inl rfl)) (q_gV 3))
  (S_one (S_ret (d_Ty call_int1 q_int rfl T.b_int (by decide +kernel) (ds_cons (d_mod (d_add (d_mul (d_mod (d_mul (dv 3) d_int) d_int) d_int) (dv 1)) d_int) ds_nil))))))))
theorem ok__law_take {f : Addr} {fd : FuncData} (F : Fun K "_law_take" "_law_take" s__law_take f fd) (T : Txt K w mg W) (G__law_number : Cal W.md P w K mg base "_law_number" 1 (spD K W (f__law_number W) 2)) : FnOk P w K mg base (CXm W.md P w) 2 f fd ["_law_draw", "_law_many"] (spD K W (f__law_take W) 2) :=
  okD F sc__law_take fun cdv A outer s H E hr =>
  (S_cons (S_drw (dv 0))
  (S_one (S_ret (d_mod (d_Ty call_int1 q_int rfl T.b_int (by decide +kernel) (ds_cons (c_call G__law_number (hr.mono (by decide)) rfl (ds_cons (d_drw0 (dv 0)) (ds_cons (d_Ty call_int1 q_int rfl T.b_int (by decide +kernel) (ds_cons (d_drw1 (dv 0)) ds_nil)) ds_nil)) (al_cons (al_cons al_nil))) ds_nil)) (dv 1)))))
theorem ok_far_by {f : Addr} {fd : FuncData} (F : Fun K "far_by" "far_by" s_far_by f fd) (T : Txt K w mg W) (G_check_wanted : Cal W.md P w K mg base "check_wanted" 3 (spD K W (f_check_wanted) 1)) (G_distance : Cal W.md P w K mg base "distance" 2 (spD K W (f_distance) 3)) (G_is_less : Cal W.md P w K mg base "is_less" 1 (spD K W (f_is_less) 2)) : FnOk P w K mg base (CXm W.md P w) 4 f fd ["line", "wanted"] (spD K W (f_far_by) 2) :=
  okD F sc_far_by fun cdv A outer s H E hr =>
  (S_cons (S_exp (c_call G_check_wanted (hr.mono (by decide)) rfl (ds_cons (dv 1) ds_nil) (al_cons al_nil)))
  (S_cons (S_asg (d_tup (ds_cons (d_tup (ds_cons (d_neg d_int) (ds_cons d_int ds_nil))) (ds_cons d_non ds_nil))) (pg_name (i := 2) sc_far_by.nd rfl (Or.inl rfl)) (q_gV 2))
  (S_cons (S_for (L2.passes_of rfl) rfl (i_of (d_B (call_sortedD2 rfl) q_sortedD2 rfl T.b_sorted (by decide +kernel) (ds_cons (dv 1) ds_nil))) (pg_name (i := 3) sc_far_by.nd rfl (Or.inl rfl)) (q_gV 3) (S_cons (S_asg (c_call G_distance (hr.mono (by decide)) rfl (ds_cons (dv 0) (ds_cons (dv 3) (ds_cons (d_ixA hr.units (dv 1) (dv 3)) ds_nil))) (al_cons (al_cons (al_cons al_nil)))) (pg_name (i := 4) sc_far_by.nd rfl (Or.inl rfl)) (q_gV 4))
  (S_one (S_if (t_tru (c_call G_is_less (hr.mono (by decide)) rfl (ds_cons (d_ix (dv 2) d_int) (ds_cons (dv 4) ds_nil)) (al_cons (al_cons al_nil)))) (S_one (S_asg (d_tup (ds_cons (dv 4) (ds_cons (dv 3) ds_nil))) (pg_name (i := 2) sc_far_by.nd rfl (Or.inl rfl)) (q_gV 2))) S_nil))))
  (S_cons (S_asg (d_ix (dv 2) d_int) (pg_tup rfl (pgs_cons (pg_name (i := 5) sc_far_by.nd rfl (Or.inl rfl)) (pgs_cons (pg_name (i := 6) sc_far_by.nd rfl (Or.inl rfl)) pgs_nil))) (q_gT (q_gsC (q_gV 5) (q_gsC (q_gV 6) q_gsN)) (gl_C (gl_C gl_N))))
  (S_cons (S_par2 (ps_par (i := 7) (j := 8) rfl sc_far_by.nd rfl rfl (by decide) rfl rfl (ds_cons (dv 5) (ds_cons (dv 6) ds_nil)) (by rfl)))
  (S_cons (S_while (fun _ => 1000000) (L2.passes_of rfl) (t_ne hr.units (dv 8) d_int) (S_one (S_par2 (ps_par (i := 7) (j := 8) rfl sc_far_by.nd rfl rfl (by decide) rfl rfl (ds_cons (dv 8) (ds_cons (d_mod (dv 7) (dv 8)) ds_nil)) (by rfl)))))
  (S_one (S_ret (d_tup (ds_cons (d_tup (ds_cons (d_div (dv 5) (dv 7)) (ds_cons (d_div (dv 6) (dv 7)) ds_nil))) (ds_cons (d_ix (dv 2) d_int) ds_nil)))))))))))
theorem ok_grade {f : Addr} {fd : FuncData} (F : Fun K "grade" "grade" s_grade f fd) (T : Txt K w mg W) (G_check_wanted : Cal W.md P w K mg base "check_wanted" 3 (spD K W (f_check_wanted) 1)) (G_extremes : Cal W.md P w K mg base "extremes" 2 (spD K W (f_extremes) 2)) (G_greatest : Cal W.md P w K mg base "greatest" 3 (spD K W (f_greatest) 2)) (G_is_less : Cal W.md P w K mg base "is_less" 1 (spD K W (f_is_less) 2)) (G_nearest_base : Cal W.md P w K mg base "nearest_base" 4 (spD K W (f_nearest_base) 2)) (G_Grade___init__ : CalI W.md P w K mg base (W.cl 2) "Grade" 1 (spI K W (f_Grade___init__) 2 2)) : FnOk P w K mg base (CXm W.md P w) 5 f fd ["wanted"] (spD K W (f_grade) 1) :=
  okD F sc_grade fun cdv A outer s H E hr =>
  (S_cons (S_exp (c_call G_check_wanted (hr.mono (by decide)) rfl (ds_cons (dv 0) ds_nil) (al_cons al_nil)))
  (S_cons (S_setComp (i := 1) rfl sc_grade.nd rfl rfl (sw_true rfl rfl rfl (by decide +kernel)) (i_rng2 rfl T.b_range (ds_cons (d_neg (d_cint rfl T.c_MOST_RISE)) (ds_cons (d_add (d_cint rfl T.c_MOST_RISE) d_int) ds_nil))) (blkOk_by (own := [("rise", 5)]) (N := N_grade) (sc := defScope s_grade) (by decide +kernel)) (fun _ _ _ _ _ => (pg_name (i := 5) sc_grade.nd rfl (Or.inl rfl))) (q_gV 5) (by decide) (fun _ _ _ _ _ => ts_nil) (fun _ _ _ _ _ => (c_call G_nearest_base (hr.mono (by decide)) rfl (ds_cons (dv 0) (ds_cons (dv 5) ds_nil)) (al_cons (al_cons al_nil)))))
  (S_cons (S_asg (d_ix (dv 1) d_int) (pg_name (i := 2) sc_grade.nd rfl (Or.inl rfl)) (q_gV 2))
  (S_cons (S_for (L2.passes_of rfl) rfl (i_of (dv 1)) (pg_name (i := 3) sc_grade.nd rfl (Or.inl rfl)) (q_gV 3) (S_one (S_if (t_tru (c_call G_is_less (hr.mono (by decide)) rfl (ds_cons (c_call G_greatest (hr.mono (by decide)) rfl (ds_cons (dv 3) (ds_cons (dv 0) ds_nil)) (al_cons (al_cons al_nil))) (ds_cons (c_call G_greatest (hr.mono (by decide)) rfl (ds_cons (dv 2) (ds_cons (dv 0) ds_nil)) (al_cons (al_cons al_nil))) ds_nil)) (al_cons (al_cons al_nil)))) (S_one (S_asg (dv 3) (pg_name (i := 2) sc_grade.nd rfl (Or.inl rfl)) (q_gV 2))) S_nil)))
  (S_cons (S_setDComp (i := 4) rfl sc_grade.nd rfl rfl (sw_trueD rfl rfl rfl (by decide +kernel)) (i_of (dv 1)) (blkOk_by (own := [("line", 3)]) (N := N_grade) (sc := defScope s_grade) (by decide +kernel)) (fun _ _ _ _ _ => (pg_name (i := 3) sc_grade.nd rfl (Or.inl rfl))) (q_gV 3) (by decide) (fun _ _ _ _ _ => ts_nil) (fun _ _ _ _ _ => (d_ix (dv 3) d_int)) (fun _ _ _ _ _ => (c_call G_extremes (hr.mono (by decide)) rfl (ds_cons (dv 0) (ds_cons (d_ix (dv 3) d_int) ds_nil)) (al_cons (al_cons al_nil)))))
  (S_one (S_ret (c_make G_Grade___init__ (hr.mono (by decide)) rfl (ds_cons (dv 2) (ds_cons (dv 4) ds_nil)) (al_cons (al_cons al_nil))))))))))
theorem body_law {f : Addr} {fd : FuncData} (F : Fun K "law" "law" s_law f fd) (T : Txt K w mg W) (G__law_far : Cal W.md P w K mg base "_law_far" 1 (spD K W (f__law_far) 2)) (G__law_least : Cal W.md P w K mg base "_law_least" 2 (spD K W (f__law_least) 2)) (G__law_less : Cal W.md P w K mg base "_law_less" 1 (spD K W (f__law_less) 2)) (G__law_take : Cal W.md P w K mg base "_law_take" 2 (spD K W (f__law_take W) 2)) (G_far_by : Cal W.md P w K mg base "far_by" 4 (spD K W (f_far_by) 2)) (G_grade : Cal W.md P w K mg base "grade" 5 (spD K W (f_grade) 1)) (G_Grade___init__ : CalI W.md P w K mg base (W.cl 2) "Grade" 1 (spI K W (f_Grade___init__) 2 2)) (G_Grade_shows : CalM W.md P w K mg base (W.cl 2) "shows" 5 (spD K W (f_Grade_shows) 2)) (hmd : W.md = false) {k : Nat} (hk : 5 ≤ k) : ∀ (cdv : Value) (A : Around) (outer : List PySem.Env) (s : Shared) (H : Hp) (E : XK), Room k (A.deeper (envOfC "law" (defScope s_law) s.heap.objs.size f cdv)) → PDSs (cxOf (CXm W.md P w) P w K mg base N_law "law" (defScope s_law) f cdv A outer s H E) W ((defBody s_law).drop 1) (g_law W) := fun cdv A outer s H E hr0 => by
  have hr := hr0.mono hk
  exact (S_cons (S_asg (d_tup (ds_cons (d_sub (c_call G__law_take (hr.mono (by decide)) rfl (ds_cons (dv 1) (ds_cons d_int ds_nil)) (al_cons (al_cons al_nil))) d_int) (ds_cons (d_sub (c_call G__law_take (hr.mono (by decide)) rfl (ds_cons (dv 1) (ds_cons d_int ds_nil)) (al_cons (al_cons al_nil))) d_int) ds_nil))) (pg_name (i := 2) sc_law.nd rfl (Or.inl rfl)) (q_gV 2))
  (S_cons (S_dic_ (i := 3) sc_law.nd rfl (Or.inr rfl))
  (S_cons (S_for (L2.passes_of rfl) rfl (i_rng1 rfl T.b_range (ds_cons (d_add d_int (c_call G__law_take (hr.mono (by decide)) rfl (ds_cons (dv 1) (ds_cons d_int ds_nil)) (al_cons (al_cons al_nil)))) ds_nil)) (pg_name (i := 4) sc_law.nd rfl (Or.inl rfl)) (q_gV 4) (S_cons (S_asg (d_tup (ds_cons (c_call G__law_take (hr.mono (by decide)) rfl (ds_cons (dv 1) (ds_cons d_int ds_nil)) (al_cons (al_cons al_nil))) (ds_cons (d_add d_int (c_call G__law_take (hr.mono (by decide)) rfl (ds_cons (dv 1) (ds_cons d_int ds_nil)) (al_cons (al_cons al_nil)))) ds_nil))) (pg_tup rfl (pgs_cons (pg_name (i := 5) sc_law.nd rfl (Or.inr rfl)) (pgs_cons (pg_name (i := 6) sc_law.nd rfl (Or.inl rfl)) pgs_nil))) (q_gT (q_gsC (q_gV 5) (q_gsC (q_gV 6) q_gsN)) (gl_C (gl_C gl_N))))
  (S_one (S_dput (i := 3) hr.units (pv 3) (dv 5) (d_tup (ds_cons (d_sub (d_add (d_mul (d_add (d_ix (dv 2) d_int) (d_mul (d_ix (dv 2) d_int) (dv 5))) (dv 6)) (c_call G__law_take (hr.mono (by decide)) rfl (ds_cons (dv 1) (ds_cons d_int ds_nil)) (al_cons (al_cons al_nil)))) d_int) (ds_cons (dv 6) ds_nil)))))))
  (S_cons (S_if (t_eq hr.units (c_call G__law_take (hr.mono (by decide)) rfl (ds_cons (dv 1) (ds_cons d_int ds_nil)) (al_cons (al_cons al_nil))) d_int) (S_one (S_dput (i := 3) hr.units (pv 3) (c_call G__law_take (hr.mono (by decide)) rfl (ds_cons (dv 1) (ds_cons d_int ds_nil)) (al_cons (al_cons al_nil))) (d_tup (ds_cons d_int (ds_cons (d_add d_int (c_call G__law_take (hr.mono (by decide)) rfl (ds_cons (dv 1) (ds_cons d_int ds_nil)) (al_cons (al_cons al_nil)))) ds_nil))))) S_nil)
  (S_frz (i := 3) (S_cons (S_asg (c_call G_grade (hr.mono (by decide)) rfl (ds_cons (dv 3) ds_nil) (al_cons al_nil)) (pg_name (i := 7) sc_law.nd rfl (Or.inr rfl)) (q_gV 7))
  (S_cons (S_asg (c_call G__law_far (hr.mono (by decide)) rfl (ds_cons (d_fld T.cl2 T.n2_line (dv 7)) (ds_cons (dv 3) ds_nil)) (al_cons (al_cons al_nil))) (pg_name (i := 8) sc_law.nd rfl (Or.inr rfl)) (q_gV 8))
  (S_cons (S_if (t_w (w_or (t_not (t_tru (c_meth G_Grade_shows (hr.mono (by decide)) T.cl2 (dv 7) (ds_cons (dv 3) ds_nil) (al_cons al_nil)))) (w_or1 (t_ne hr.units (d_B call_sortedA q_sorted rfl T.b_sorted (by decide +kernel) (ds_cons (d_Ty (call_listA rfl) q_lstA rfl T.b_list (by decide +kernel) (ds_cons (d_fld T.cl2 T.n2_against (dv 7)) ds_nil)) ds_nil)) (d_lstR2 rfl rfl T.b_range rfl T.b_list (d_neg d_int) d_int))))) (S_one (S_ret d_bl)) S_nil)
  (S_cons (S_asg (d_lst (ds_cons (d_ix (d_fld T.cl2 T.n2_line (dv 7)) d_int) (ds_cons (d_ix (dv 2) d_int) (ds_cons (d_sub (c_call G__law_take (hr.mono (by decide)) rfl (ds_cons (dv 1) (ds_cons d_int ds_nil)) (al_cons (al_cons al_nil))) d_int) (ds_cons (d_sub (c_call G__law_take (hr.mono (by decide)) rfl (ds_cons (dv 1) (ds_cons d_int ds_nil)) (al_cons (al_cons al_nil))) d_int) ds_nil))))) (pg_name (i := 9) sc_law.nd rfl (Or.inl rfl)) (q_gV 9))
  (S_cons (S_for (L2.passes_of rfl) rfl (i_of (dv 9)) (pg_name (i := 10) sc_law.nd rfl (Or.inr rfl)) (q_gV 10) (S_cons (S_asg (d_ixA hr.units (d_fld T.cl2 T.n2_against (dv 7)) (dv 10)) (pg_tup rfl (pgs_cons (pg_name (i := 11) sc_law.nd rfl (Or.inl rfl)) (pgs_cons (pg_name (i := 12) sc_law.nd rfl (Or.inl rfl)) pgs_nil))) (q_gT (q_gsC (q_gV 11) (q_gsC (q_gV 12) q_gsN)) (gl_C (gl_C gl_N))))
  (S_cons (S_asg (d_TyL (call_dictA rfl) q_dictA rfl T.b_dict (by decide +kernel) (ds_cons (d_lst (ds_cons (d_tup (ds_cons (dv 11) (ds_cons (d_ixA hr.units (dv 3) (dv 11)) ds_nil))) (ds_cons (d_tup (ds_cons (dv 12) (ds_cons (d_ixA hr.units (dv 3) (dv 12)) ds_nil))) ds_nil))) ds_nil)) (pg_name (i := 13) sc_law.nd rfl (Or.inl rfl)) (q_gV 13))
  (S_one (S_if (t_w (w_or (t_tru (c_call G__law_less (hr.mono (by decide)) rfl (ds_cons (c_call G__law_least (hr.mono (by decide)) rfl (ds_cons (dv 13) (ds_cons (dv 10) ds_nil)) (al_cons (al_cons al_nil))) (ds_cons (dv 8) ds_nil)) (al_cons (al_cons al_nil)))) (w_or1 (t_tru (c_call G__law_less (hr.mono (by decide)) rfl (ds_cons (c_call G__law_least (hr.mono (by decide)) rfl (ds_cons (dv 3) (ds_cons (dv 10) ds_nil)) (al_cons (al_cons al_nil))) (ds_cons (dv 8) ds_nil)) (al_cons (al_cons al_nil))))))) (S_one (S_ret d_bl)) S_nil)))))
  (S_cons (S_asg (c_call G_far_by (hr.mono (by decide)) rfl (ds_cons (d_fld T.cl2 T.n2_line (dv 7)) (ds_cons (dv 3) ds_nil)) (al_cons (al_cons al_nil))) (pg_tup rfl (pgs_cons (pg_name (i := 14) sc_law.nd rfl (Or.inl rfl)) (pgs_cons (pg_name (i := 5) sc_law.nd rfl (Or.inr rfl)) pgs_nil))) (q_gT (q_gsC (q_gV 14) (q_gsC (q_gV 5) q_gsN)) (gl_C (gl_C gl_N))))
  (S_cons (S_if (t_w (w_or (t_ne hr.units (d_mul (d_ix (dv 14) d_int) (d_ix (dv 8) d_int)) (d_mul (d_ix (dv 8) d_int) (d_ix (dv 14) d_int))) (w_or1 (t_ne hr.units (d_mul (d_ix (c_call G__law_far (hr.mono (by decide)) rfl (ds_cons (d_fld T.cl2 T.n2_line (dv 7)) (ds_cons (d_disp (pp_cons (dv 5) (d_ixA hr.units (dv 3) (dv 5)) pp_nil)) ds_nil)) (al_cons (al_cons al_nil))) d_int) (d_ix (dv 8) d_int)) (d_mul (d_ix (dv 8) d_int) (d_ix (c_call G__law_far (hr.mono (by decide)) rfl (ds_cons (d_fld T.cl2 T.n2_line (dv 7)) (ds_cons (d_disp (pp_cons (dv 5) (d_ixA hr.units (dv 3) (dv 5)) pp_nil)) ds_nil)) (al_cons (al_cons al_nil))) d_int)))))) (S_one (S_ret d_bl)) S_nil)
  (S_cons (S_if (t_tru (d_B (cr_any rfl) q_any rfl T.b_any (by decide +kernel) (ds_cons (d_comp rfl sc_law.nd (i_key (dv 3)) (blkOk_by (own := [("_law_less_here", 17)]) (N := N_law) (sc := defScope s_law) (by decide +kernel)) (fun _ _ _ _ _ => (pg_name (i := 17) sc_law.nd rfl (Or.inl rfl))) (q_gV 17) (by decide) (fun _ _ _ _ _ => (ts_one (t_lt (dv 17) (dv 5)))) (fun _ _ _ _ _ => (d_not (c_call G__law_less (hr.mono (by decide)) rfl (ds_cons (c_call G__law_far (hr.mono (by decide)) rfl (ds_cons (d_fld T.cl2 T.n2_line (dv 7)) (ds_cons (d_disp (pp_cons (dv 17) (d_ixA hr.units (dv 3) (dv 17)) pp_nil)) ds_nil)) (al_cons (al_cons al_nil))) (ds_cons (dv 8) ds_nil)) (al_cons (al_cons al_nil)))))) ds_nil))) (S_one (S_ret d_bl)) S_nil)
  (S_cons (S_par2 (ps_par (i := 11) (j := 15) rfl sc_law.nd rfl rfl (by decide) rfl rfl (ds_cons (d_ix (dv 14) d_int) (ds_cons (d_ix (dv 14) d_int) ds_nil)) (by rfl)))
  (S_cons (S_for (L2.passes_of rfl) rfl (i_rng1 rfl T.b_range (ds_cons d_int ds_nil)) (pg_name (i := 4) sc_law.nd rfl (Or.inl rfl)) (q_gV 4) (S_one (S_if (t_ne hr.units (dv 15) d_int) (S_one (S_par2 (ps_par (i := 11) (j := 15) rfl sc_law.nd rfl rfl (by decide) rfl rfl (ds_cons (dv 15) (ds_cons (d_mod (d_Ty call_intA q_intA rfl T.b_int (by decide +kernel) (ds_cons (dv 11) ds_nil)) (dv 15)) ds_nil)) (by rfl)))) S_nil)))
  (S_cons (S_if (t_w (w_or (t_ne hr.units (dv 11) d_int) (w_or1 (t_lt (d_ix (dv 14) d_int) d_int)))) (S_one (S_ret d_bl)) S_nil)
  (S_cons (S_asg (d_tup (ds_cons (d_if (t_lt (d_ix (d_fld T.cl2 T.n2_line (dv 7)) d_int) d_int) (d_add (d_ix (d_fld T.cl2 T.n2_line (dv 7)) d_int) d_int) (d_sub (d_ix (d_fld T.cl2 T.n2_line (dv 7)) d_int) d_int)) (ds_cons (d_ix (d_fld T.cl2 T.n2_line (dv 7)) d_int) ds_nil))) (pg_name (i := 16) sc_law.nd rfl (Or.inl rfl)) (q_gV 16))
  (S_cons (S_if (t_ne hr.units (c_meth G_Grade_shows (hr.mono (by decide)) T.cl2 (c_make G_Grade___init__ (hr.mono (by decide)) rfl (ds_cons (dv 16) (ds_cons (d_fld T.cl2 T.n2_against (dv 7)) ds_nil)) (al_cons (al_cons al_nil))) (ds_cons (dv 3) ds_nil) (al_cons al_nil)) (d_not (c_call G__law_less (hr.mono (by decide)) rfl (ds_cons (dv 8) (ds_cons (c_call G__law_far (hr.mono (by decide)) rfl (ds_cons (dv 16) (ds_cons (dv 3) ds_nil)) (al_cons (al_cons al_nil))) ds_nil)) (al_cons (al_cons al_nil))))) (S_one (S_ret d_bl)) S_nil)
  (S_cons (S_asg (d_sub (c_call G__law_take (hr.mono (by decide)) rfl (ds_cons (dv 1) (ds_cons d_int ds_nil)) (al_cons (al_cons al_nil))) d_int) (pg_name (i := 10) sc_law.nd rfl (Or.inr rfl)) (q_gV 10))
  (S_cons (S_asg (d_TyL (call_dictA rfl) q_dictA rfl T.b_dict (by decide +kernel) (ds_cons (d_comp rfl sc_law.nd (i_itm (by first | exact .inl ⟨_, _, _, rfl⟩ | exact .inr ⟨_, _, rfl⟩) (d_fld T.cl2 T.n2_against (dv 7))) (blkOk_by (own := [("_law_row", 19)]) (N := N_law) (sc := defScope s_law) (by decide +kernel)) (fun _ _ _ _ _ => (pg_name (i := 19) sc_law.nd rfl (Or.inl rfl))) (q_gV 19) (by decide) (fun _ _ _ _ _ => (ts_one (t_ne hr.units (d_ix (dv 19) d_int) (dv 10)))) (fun _ _ _ _ _ => (dv 19))) ds_nil)) (pg_name (i := 17) sc_law.nd rfl (Or.inl rfl)) (q_gV 17))
  (S_cons (S_if (t_tru (c_meth G_Grade_shows (hr.mono (by decide)) T.cl2 (c_make G_Grade___init__ (hr.mono (by decide)) rfl (ds_cons (d_fld T.cl2 T.n2_line (dv 7)) (ds_cons (dv 17) ds_nil)) (al_cons (al_cons al_nil))) (ds_cons (dv 3) ds_nil) (al_cons al_nil))) (S_one (S_ret d_bl)) S_nil)
  (S_cons (S_for (L2.passes_of rfl) rfl (i_of (d_tup (ds_cons d_dic0 (ds_cons d_non (ds_cons (d_disp (pp_cons d_int d_int pp_nil)) (ds_cons (d_disp (pp_cons d_int (d_tup (ds_cons d_int (ds_cons d_int ds_nil))) pp_nil)) (ds_cons (d_disp (pp_cons d_int (d_tup (ds_cons d_int (ds_cons (d_neg d_int) ds_nil))) pp_nil)) (ds_cons (d_disp (pp_cons (d_neg d_int) (d_tup (ds_cons d_int (ds_cons d_int ds_nil))) pp_nil)) (ds_cons (d_disp (pp_cons d_int (d_tup (ds_cons d_int (ds_cons d_int ds_nil))) pp_nil)) (ds_cons (d_odd (d_tup (ds_cons d_int (ds_cons d_int ds_nil)))) (ds_cons (d_disp (pp_cons d_int (d_tup (ds_cons d_int (ds_cons d_int ds_nil))) pp_nil)) (ds_cons (d_disp (pp_cons d_int (d_tup (ds_cons d_int (ds_cons d_int (ds_cons d_int ds_nil)))) pp_nil)) ds_nil)))))))))))) (pg_name (i := 18) sc_law.nd rfl (Or.inl rfl)) (q_gV 18) (S_one (S_try hmd rfl rfl ⟨rfl, by decide, .inl T.g1⟩ T.tr1 (fun pn xe po => (S_consX (S_expX (c_call G_grade (hr.mono (by decide)) rfl (ds_cons (dv 18) ds_nil) (al_cons al_nil))) (S_one (S_ret d_bl)))) (fun a pn => (S_one S_pass)))))
  (S_one (S_ret d_bl))))))))))))))))))))))))
end
end P_k73_whole_grades
end

section
set_option Elab.async false
set_option linter.all false
set_option autoImplicit false
set_option maxRecDepth 100000
/-! evaluating the functions over plain data -/
namespace DL
open PySem L2
/-- the ways on, by names of their own (no match stands in a goal) -/
def bindR {α β : Type} (r : Option (Except Xc α × Int)) (k : α → M β) : Option (Except Xc β × Int) := match r with
  | none => none
  | some (.ok x, n1) => k x n1
  | some (.error e, n1) => some (.error e, n1)
@[simp] theorem bindR_ok {α β : Type} (x : α) (n : Int) (k : α → M β) : bindR (some (.ok x, n)) k = k x n := (rfl)
@[simp] theorem bindR_none {α β : Type} (k : α → M β) : bindR none k = none := (rfl)
@[simp] theorem bindR_err {α β : Type} (e : Xc) (n : Int) (k : α → M β) : bindR (some (.error e, n)) k = some (.error e, n) := (rfl)
def selB {α : Type} (b : Bool) (x y : α) : α := match b with | true => x | false => y
@[simp] theorem selB_true {α : Type} (x y : α) : selB true x y = x := (rfl)
@[simp] theorem selB_false {α : Type} (x y : α) : selB false x y = y := (rfl)
def seqK (h : SX) (o : Out) : M Out := match o with
  | .nx ρ' => h ρ'
  | .bk ρ' => M.pure (.bk ρ')
  | .ct ρ' => M.pure (.ct ρ')
  | .ret d => M.pure (.ret d)
  | .rn ρ' => M.pure (.rn ρ')
@[simp] theorem seqK_rn (h : SX) (ρ : Env) : seqK h (.rn ρ) = M.pure (.rn ρ) := (rfl)
@[simp] theorem seqK_nx (h : SX) (ρ : Env) : seqK h (.nx ρ) = h ρ := (rfl)
@[simp] theorem seqK_bk (h : SX) (ρ : Env) : seqK h (.bk ρ) = M.pure (.bk ρ) := (rfl)
@[simp] theorem seqK_ct (h : SX) (ρ : Env) : seqK h (.ct ρ) = M.pure (.ct ρ) := (rfl)
@[simp] theorem seqK_ret (h : SX) (d : D) : seqK h (.ret d) = M.pure (.ret d) := (rfl)
def runK (o : Out) : M D := match o with
  | .ret d => M.pure d
  | .nx _ => M.pure .non
  | _ => M.opt none
@[simp] theorem runK_ret (d : D) : runK (.ret d) = M.pure d := (rfl)
@[simp] theorem runK_nx (ρ : Env) : runK (.nx ρ) = M.pure .non := (rfl)
def runIK (o : Out) : M D := match o with
  | .nx (Sl.own d :: _) => M.pure d
  | _ => M.opt none
@[simp] theorem runIK_nx (d : D) (r : Env) : runIK (.nx (Sl.own d :: r)) = M.pure d := (rfl)
/-- behind a turn: on with k, or out -/
def turnK (k : Env → M Out) (o : Out) : M Out := match o with
  | .nx ρ2 => k ρ2
  | .ct ρ2 => k ρ2
  | .bk ρ2 => M.pure (.nx ρ2)
  | .ret d => M.pure (.ret d)
  | .rn ρ2 => M.pure (.rn ρ2)
@[simp] theorem turnK_rn (k : Env → M Out) (ρ : Env) : turnK k (.rn ρ) = M.pure (.rn ρ) := (rfl)
@[simp] theorem turnK_nx (k : Env → M Out) (ρ : Env) : turnK k (.nx ρ) = k ρ := (rfl)
@[simp] theorem turnK_ct (k : Env → M Out) (ρ : Env) : turnK k (.ct ρ) = k ρ := (rfl)
@[simp] theorem turnK_bk (k : Env → M Out) (ρ : Env) : turnK k (.bk ρ) = M.pure (.nx ρ) := (rfl)
@[simp] theorem turnK_ret (k : Env → M Out) (d : D) : turnK k (.ret d) = M.pure (.ret d) := (rfl)
def makeK (c : Nat) (d : D) : M D := match d with
  | .obj c' ks vs => if c' = c then M.pure (.obj c' ks vs) else M.opt none
  | _ => M.opt none
@[simp] theorem makeK_obj (c : Nat) (ks : List Str) (vs : List D) : makeK c (.obj c ks vs) = M.pure (.obj c ks vs) := if_pos rfl
def chainK (o2 : D → D → Option D) (y : D) (fc : M D) (r : D) : M D := match r with
  | .bl true => M.bind fc fun z => M.opt (o2 y z)
  | .bl false => M.pure (.bl false)
  | _ => M.opt none
@[simp] theorem chainK_true (o2 : D → D → Option D) (y : D) (fc : M D) : chainK o2 y fc (.bl true) = M.bind fc fun z => M.opt (o2 y z) := (rfl)
@[simp] theorem chainK_false (o2 : D → D → Option D) (y : D) (fc : M D) : chainK o2 y fc (.bl false) = M.pure (.bl false) := (rfl)
def consO (y : Option D) (ys : List D) : List D := match y with | some z => z :: ys | none => ys
@[simp] theorem consO_some (z : D) (ys : List D) : consO (some z) ys = z :: ys := (rfl)
@[simp] theorem consO_none (ys : List D) : consO none ys = ys := (rfl)
@[simp] theorem bind_ap {α β : Type} (a : M α) (k : α → M β) (n : Int) : M.bind a k n = bindR (a n) k := (rfl)
@[simp] theorem pure_ap {α : Type} (a : α) (n : Int) : M.pure a n = some (.ok a, n) := (rfl)
@[simp] theorem opt_some {α : Type} (a : α) (n : Int) : M.opt (some a) n = some (.ok a, n) := (rfl)
@[simp] theorem opt_none {α : Type} (n : Int) : (M.opt (none : Option α)) n = none := (rfl)
@[simp] theorem eVar_0 (d : D) (r : Env) (n : Int) : eVar 0 (.val d :: r) n = some (.ok d, n) := (rfl)
@[simp] theorem eVar_s (i : Nat) (s : Sl) (r : Env) (n : Int) : eVar (i + 1) (s :: r) n = eVar i r n := (rfl)
@[simp] theorem eC_ap (d : D) (ρ : Env) (n : Int) : eC d ρ n = some (.ok d, n) := (rfl)
@[simp] theorem eNil_ap (ρ : Env) (n : Int) : eNil ρ n = some (.ok [], n) := (rfl)
@[simp] theorem eCons_ap (f : EX) (g : EXs) (ρ : Env) (n : Int) : eCons f g ρ n = M.bind (f ρ) (fun d => M.bind (g ρ) fun ds => M.pure (d :: ds)) n := (rfl)
@[simp] theorem eTup_ap (f : EXs) (ρ : Env) (n : Int) : eTup f ρ n = M.bind (f ρ) (fun ds => M.opt (mkTup ds)) n := (rfl)
@[simp] theorem eLst_ap (f : EXs) (ρ : Env) (n : Int) : eLst f ρ n = M.bind (f ρ) (fun ds => M.opt (mkLst ds)) n := (rfl)
@[simp] theorem e2_ap (op : D → D → Option D) (a b : EX) (ρ : Env) (n : Int) : e2 op a b ρ n = M.bind (a ρ) (fun x => M.bind (b ρ) fun y => M.opt (op x y)) n := (rfl)
@[simp] theorem e1_ap (op : D → Option D) (a : EX) (ρ : Env) (n : Int) : e1 op a ρ n = M.bind (a ρ) (fun x => M.opt (op x)) n := (rfl)
@[simp] theorem eB_ap (op : List D → Option D) (a : EXs) (ρ : Env) (n : Int) : eB op a ρ n = M.bind (a ρ) (fun x => M.opt (op x)) n := (rfl)
@[simp] theorem eCall_ap (fx : FX) (a : EXs) (ρ : Env) (n : Int) : eCall fx a ρ n = M.bind (a ρ) fx n := (rfl)
@[simp] theorem eMake_ap (c : Nat) (fx : FX) (a : EXs) (ρ : Env) (n : Int) : eMake c fx a ρ n = M.bind (a ρ) (fun ds => M.bind (fx ds) (makeK c)) n := (rfl)
@[simp] theorem eMeth_ap (c : Nat) (m : Str) (fx : FX) (fo : EX) (fs : EXs) (ρ : Env) (n : Int) : eMeth c m fx fo fs ρ n = M.bind (fo ρ) (fun o => if isObj c m o then M.bind (fs ρ) fun ds => fx (o :: ds) else M.opt none) n := (rfl)
@[simp] theorem eIf_ap (t : TX) (f g : EX) (ρ : Env) (n : Int) : eIf t f g ρ n = M.bind (t ρ) (fun b => selB b (f ρ) (g ρ)) n := (rfl)
@[simp] theorem eAnd_ap (f g : EX) (ρ : Env) (n : Int) : eAnd f g ρ n = M.bind (f ρ) (fun d => M.bind (M.opt (dTru d)) fun b => selB b (g ρ) (M.pure d)) n := (rfl)
@[simp] theorem eNot_ap (f : EX) (ρ : Env) (n : Int) : eNot f ρ n = M.bind (f ρ) (fun d => M.bind (M.opt (dTru d)) fun b => M.pure (.bl (!b))) n := (rfl)
@[simp] theorem eChain_ap (o1 o2 : D → D → Option D) (fa fb fc : EX) (ρ : Env) (n : Int) : eChain o1 o2 fa fb fc ρ n = M.bind (fa ρ) (fun x => M.bind (fb ρ) fun y => M.bind (M.opt (o1 x y)) fun r => chainK o2 y (fc ρ) r) n := (rfl)
@[simp] theorem tB_ap (f : EX) (ρ : Env) (n : Int) : tB f ρ n = M.bind (f ρ) (fun d => M.opt (dBool d)) n := (rfl)
@[simp] theorem tTru_ap (f : EX) (ρ : Env) (n : Int) : tTru f ρ n = M.bind (f ρ) (fun d => M.opt (dTru d)) n := (rfl)
@[simp] theorem tOrD_ap (t u : TX) (ρ : Env) (n : Int) : tOrD t u ρ n = M.bind (t ρ) (fun b => selB b (M.pure true) (u ρ)) n := (rfl)
@[simp] theorem tNotD_ap (t : TX) (ρ : Env) (n : Int) : tNotD t ρ n = M.bind (t ρ) (fun b => M.pure (!b)) n := (rfl)
@[simp] theorem tYesD_ap (ρ : Env) (n : Int) : tYesD ρ n = some (.ok true, n) := (rfl)
@[simp] theorem dBool_bl (b : Bool) : dBool (.bl b) = some b := (rfl)
@[simp] theorem dTru_bl (b : Bool) : dTru (.bl b) = some b := (rfl)
@[simp] theorem isNon_non : isNon .non = true := (rfl)
@[simp] theorem isNon_int (i : Int) : isNon (.int i) = false := (rfl)
@[simp] theorem isNon_tup (xs : List D) : isNon (.tup xs) = false := (rfl)
@[simp] theorem sNx_ap (ρ : Env) (n : Int) : sNx ρ n = some (.ok (.nx ρ), n) := (rfl)
@[simp] theorem sSeq_ap (g h : SX) (ρ : Env) (n : Int) : sSeq g h ρ n = M.bind (g ρ) (seqK h) n := (rfl)
@[simp] theorem sRet_ap (f : EX) (ρ : Env) (n : Int) : sRet f ρ n = M.bind (f ρ) (fun d => M.pure (.ret d)) n := (rfl)
@[simp] theorem sExp_ap (f : EX) (ρ : Env) (n : Int) : sExp f ρ n = M.bind (f ρ) (fun _ => M.pure (.nx ρ)) n := (rfl)
@[simp] theorem sAsg_ap (g : GX) (f : EX) (ρ : Env) (n : Int) : sAsg g f ρ n = M.bind (f ρ) (fun d => M.bind (M.opt (g d ρ)) fun ρ' => M.pure (.nx ρ')) n := (rfl)
@[simp] theorem sIf_ap (t : TX) (g h : SX) (ρ : Env) (n : Int) : sIf t g h ρ n = M.bind (t ρ) (fun b => selB b (g ρ) (h ρ)) n := (rfl)
@[simp] theorem sFor_ap (g : GX) (it : IX) (b : SX) (ρ : Env) (n : Int) : sFor g it b ρ n = M.bind (it ρ) (fun ds => forD g b ds ρ) n := (rfl)
@[simp] theorem sWhile_ap (m : Env → Nat) (t : TX) (b : SX) (ρ : Env) (n : Int) : sWhile m t b ρ n = whileD t b (m ρ) ρ n := (rfl)
@[simp] theorem sUp_ap (i : Nat) (up : D → D → Option D) (f : EX) (ρ : Env) (n : Int) : sUp i up f ρ n = M.bind (f ρ) (fun d => M.bind (M.opt ((own? ρ i).bind (up d))) fun o => M.pure (.nx (ρ.set i (.own o)))) n := (rfl)
@[simp] theorem sPar_ap (is : List Nat) (f : EXs) (ρ : Env) (n : Int) : sPar is f ρ n = M.bind (f ρ) (fun ds => if ds.length = is.length then M.pure (.nx ((is.zip ds).foldl (fun r p => r.set p.1 (.val p.2)) ρ)) else M.opt none) n := (rfl)
@[simp] theorem own_0 (d : D) (r : Env) : own? (.own d :: r) 0 = some d := (rfl)
@[simp] theorem own_s (i : Nat) (s : Sl) (r : Env) : own? (s :: r) (i + 1) = own? r i := (rfl)
@[simp] theorem gV_ap (i : Nat) (d : D) (ρ : Env) : gV i d ρ = some (ρ.set i (.val d)) := (rfl)
@[simp] theorem gT_ap (g : GXs) (ds : List D) (ρ : Env) : gT g (.tup ds) ρ = g ds ρ := (rfl)
@[simp] theorem gsN_ap (ρ : Env) : gsN [] ρ = some ρ := (rfl)
@[simp] theorem gsC_ap (g : GX) (gs : GXs) (d : D) (r : List D) (ρ : Env) : gsC g gs (d :: r) ρ = (g d ρ).bind fun ρ1 => gs r ρ1 := (rfl)
@[simp] theorem iOf_ap (f : EX) (ρ : Env) (n : Int) : iOf f ρ n = M.bind (f ρ) (fun d => M.opt (dItems d)) n := (rfl)
@[simp] theorem iRng1D_ap (f : EXs) (ρ : Env) (n : Int) : iRng1D f ρ n = M.bind (f ρ) (fun ds => M.opt (dRng1 ds)) n := (rfl)
@[simp] theorem iRng2D_ap (f : EXs) (ρ : Env) (n : Int) : iRng2D f ρ n = M.bind (f ρ) (fun ds => M.opt (dRng2 ds)) n := (rfl)
@[simp] theorem dItems_tup (ds : List D) : dItems (.tup ds) = some ds := (rfl)
@[simp] theorem dItems_lst (ds : List D) : dItems (.lst ds) = some ds := (rfl)
def calmR {α : Type} (r : Option (Except Xc α × Int)) : Option (Except Xc α × Int) := match r with
  | some (.ok x, n1) => some (.ok x, n1)
  | _ => none
@[simp] theorem calmR_ok {α : Type} (x : α) (n : Int) : calmR (some (Except.ok x, n)) = some (.ok x, n) := (rfl)
@[simp] theorem calm_ap {α : Type} (a : M α) (n : Int) : M.calm a n = calmR (a n) := (rfl)
@[simp] theorem eComp_ap (vs : List Nat) (g : GX) (it : IX) (t : TX) (f : EX) (ρ : Env) (n : Int) : eComp vs g it t f ρ n = M.bind (it ρ) (fun ds => M.bind (M.calm (compD (compB vs g t f ρ) ds)) fun ys => M.opt (mkLst ys)) n := (rfl)
@[simp] theorem compB_ap (vs : List Nat) (g : GX) (t : TX) (f : EX) (ρ : Env) (d : D) (n : Int) : compB vs g t f ρ d n = M.bind (M.opt (g d (hide (wipeD ρ vs)))) (fun ρ1 => M.bind (t ρ1) fun b => selB b (M.bind (f ρ1) fun y => M.pure (some y)) (M.pure none)) n := (rfl)
@[simp] theorem hide_nil : hide [] = [] := (rfl)
@[simp] theorem hide_no (r : Env) : hide (.no :: r) = .no :: hide r := (rfl)
@[simp] theorem hide_val (d : D) (r : Env) : hide (.val d :: r) = .val d :: hide r := (rfl)
@[simp] theorem hide_own (d : D) (r : Env) : hide (.own d :: r) = .no :: hide r := (rfl)
@[simp] theorem wipeD_nil (ρ : Env) : wipeD ρ [] = ρ := (rfl)
@[simp] theorem wipeD_cons (ρ : Env) (v : Nat) (vs : List Nat) : wipeD ρ (v :: vs) = (wipeD ρ vs).set v .no := (rfl)
@[simp] theorem runD_ap (N P : Nat) (g : SX) (ds : List D) (n : Int) : runD N P g ds n = M.bind (g (ds.map Sl.val ++ List.replicate (N - P) Sl.no)) runK n := (rfl)
@[simp] theorem runI_ap (N P c : Nat) (g : SX) (ds : List D) (n : Int) : runI N P c g ds n = M.bind (g (Sl.own (.obj c [] []) :: ds.map Sl.val ++ List.replicate (N - P) Sl.no)) runIK n := (rfl)
@[simp] theorem forD_nil (g : GX) (b : SX) (ρ : Env) (n : Int) : forD g b [] ρ n = some (.ok (.nx ρ), n) := (rfl)
theorem forD_cons (g : GX) (b : SX) (d : D) (ds : List D) (ρ : Env) (n : Int) : forD g b (d :: ds) ρ n = M.bind (M.opt (g d ρ)) (fun ρ1 => M.bind (b ρ1) (turnK (forD g b ds))) n := (rfl)
theorem whileD_s (t : TX) (b : SX) (m : Nat) (ρ : Env) (n : Int) : whileD t b (m + 1) ρ n = M.bind (t ρ) (fun c => selB c (M.bind (b ρ) (turnK (whileD t b m))) (M.pure (.nx ρ))) n := by
  show M.bind (t ρ) _ n = M.bind (t ρ) _ n
  congr 1
  funext c
  cases c
  · rfl
  · show M.bind (b ρ) _ = M.bind (b ρ) _
    congr 1
theorem compD_cons (b : D → M (Option D)) (d : D) (ds : List D) (n : Int) : compD b (d :: ds) n = M.bind (b d) (fun y => M.bind (compD b ds) fun ys => M.pure (consO y ys)) n := (rfl)
theorem small62_of {i : Int} (h : -1000000 ≤ i) (h2 : i ≤ 1000000) : small62 i = true := by
  unfold small62
  simp only [Bool.and_eq_true, decide_eq_true_eq]
  exact ⟨by omega, by omega⟩
theorem small64_of {i : Int} (h : -1000000 ≤ i) (h2 : i ≤ 1000000) : small64 i = true := by
  unfold small64
  simp only [Bool.and_eq_true, decide_eq_true_eq]
  exact ⟨by omega, by omega⟩
theorem dRng1_ok {j : Int} (h : -1000000 ≤ j) (h2 : j ≤ 1000000) : dRng1 [.int j] = some (rngD 0 j) := if_pos (small62_of h h2)
@[simp] theorem mkTup_of {ds : List D} (h : ds.length ≤ 16777216) : mkTup ds = some (.tup ds) := by
  unfold mkTup gz; rw [sizeLine_eq, decide_eq_true h]; rfl
@[simp] theorem mkLst_of {ds : List D} (h : ds.length ≤ 16777216) : mkLst ds = some (.lst ds) := by
  unfold mkLst gz; rw [sizeLine_eq, decide_eq_true h]; rfl
/-! ### comprehensions, loops -/
/-! ### data that is compared -/
class PyE (α : Type) where
  enc : α → D
  py : α → PyData
  to : ∀ x, toPy (enc x) = some (py x)
  lay : ∀ x, (py x).canLay0 = true
  dep : ∀ x, (py x).depth ≤ 8
  eqv : ∀ x y, PyData.eqv (py x) (py y) = true ↔ x = y
theorem PyE.shaped {α : Type} [PyE α] (x : α) : SeqAt.shaped (PyE.py x) = true := by
  unfold SeqAt.shaped
  have := PyE.dep x
  rw [PyE.lay]; simp; omega
theorem bool_dec {b : Bool} {p : Prop} [Decidable p] (h : b = true ↔ p) : b = decide p := by
  by_cases q : p
  · rw [decide_eq_true q]; exact h.mpr q
  · rw [decide_eq_false q]
    cases b with
    | true => exact absurd (h.mp rfl) q
    | false => rfl
theorem dEqB_enc {α : Type} [PyE α] [DecidableEq α] (x y : α) : dEqB (PyE.enc x) (PyE.enc y) = some (decide (x = y)) := by
  unfold dEqB
  simp only [PyE.to, PyE.shaped, Bool.and_self, if_true]
  rw [bool_dec (PyE.eqv x y)]
theorem dEq_enc {α : Type} [PyE α] [DecidableEq α] (x y : α) : dEq (PyE.enc x) (PyE.enc y) = some (.bl (decide (x = y))) := by
  unfold dEq; rw [dEqB_enc]
theorem dNe_enc {α : Type} [PyE α] [DecidableEq α] (x y : α) : dNe (PyE.enc x) (PyE.enc y) = some (.bl (!decide (x = y))) := by
  unfold dNe; rw [dEqB_enc]
/-- tuples and lists of such -/
def encT {α : Type} [PyE α] (xs : List α) : D := .tup (xs.map PyE.enc)
instance : PyE Int where
  enc := D.int
  py := PyData.int
  to := fun x => by unfold toPy; rfl
  lay := fun x => by unfold PyData.canLay0; rfl
  dep := fun x => by unfold PyData.depth; omega
  eqv := fun x y => by unfold PyData.eqv; simp
@[simp] theorem dEq_int (i j : Int) : dEq (.int i) (.int j) = some (.bl (decide (i = j))) := dEq_enc (α := Int) i j
@[simp] theorem dNe_int (i j : Int) : dNe (.int i) (.int j) = some (.bl (!decide (i = j))) := dNe_enc (α := Int) i j
@[simp] theorem dLt_int (i j : Int) : dLt (.int i) (.int j) = some (.bl (decide (i < j))) := (rfl)
@[simp] theorem dLe_int (i j : Int) : dLe (.int i) (.int j) = some (.bl (decide (i ≤ j))) := (rfl)
@[simp] theorem dGt_int (i j : Int) : dGt (.int i) (.int j) = some (.bl (decide (j < i))) := (rfl)
@[simp] theorem dGe_int (i j : Int) : dGe (.int i) (.int j) = some (.bl (decide (j ≤ i))) := (rfl)
@[simp] theorem dAdd_int (i j : Int) : dAdd (.int i) (.int j) = some (.int (i + j)) := (rfl)
@[simp] theorem dSub_int (i j : Int) : dSub (.int i) (.int j) = some (.int (i - j)) := (rfl)
@[simp] theorem dNeg_int (i : Int) : dNeg (.int i) = some (.int (-i)) := (rfl)
theorem dMul_int {i j : Int} (h : small64 i = true ∨ small64 j = true) : dMul (.int i) (.int j) = some (.int (i * j)) := by
  exact if_pos (by rw [Bool.or_eq_true]; exact h)
theorem dMod_int {i j : Int} (h : 0 < j) : dMod (.int i) (.int j) = some (.int (i % j)) := by
  exact if_pos (decide_eq_true h)
theorem dDiv_int {i j : Int} (h : 0 < j) (h2 : j < 1073741824) : dDiv (.int i) (.int j) = some (.int (i / j)) := by
  exact if_pos (by simp only [Bool.and_eq_true, decide_eq_true_eq]; exact ⟨h, h2⟩)
@[simp] theorem dLen_tup (xs : List D) : dLen [.tup xs] = some (.int xs.length) := (rfl)
@[simp] theorem dLen_lst (xs : List D) : dLen [.lst xs] = some (.int xs.length) := (rfl)
@[simp] theorem dLen_T {α : Type} [PyE α] (xs : List α) : dLen [encT xs] = some (.int xs.length) := by simp [encT]
theorem dEqB_bl (a b : Bool) : dEqB (.bl a) (.bl b) = some (a == b) := by
  unfold dEqB toPy
  have s : ∀ a : Bool, SeqAt.shaped (.bool a) = true := fun a => by cases a <;> decide +kernel
  simp only [s, Bool.and_self, if_true]
  unfold PyData.eqv
  rfl
@[simp] theorem dNe_bl (a b : Bool) : dNe (.bl a) (.bl b) = some (.bl (!(a == b))) := by unfold dNe; rw [dEqB_bl]
@[simp] theorem dEq_bl (a b : Bool) : dEq (.bl a) (.bl b) = some (.bl (a == b)) := by unfold dEq; rw [dEqB_bl]
@[simp] theorem dNe_non : dNe .non .non = some (.bl false) := by
  have : dEqB .non .non = some true := by unfold dEqB toPy; decide +kernel
  unfold dNe; rw [this]; rfl
end DL
end

section
set_option Elab.async false
set_option linter.all false
set_option autoImplicit false
set_option maxRecDepth 100000
/-! evaluating what DL17 .. DL24 added -/
namespace DL
open PySem L2
@[simp] theorem sFrz_ap (i : Nat) (ρ : Env) (n : Int) : sFrz i ρ n = M.bind (M.opt (frzE i ρ)) (fun ρ' => M.pure (.nx ρ')) n := (rfl)
theorem gz_of {ds : List D} (h : ds.length ≤ 16777216) : (if gz ds then some ds else none) = some ds := by
  have : mkLst ds = some (.lst ds) := mkLst_of h
  unfold mkLst at this
  split at this
  · rename_i h; rw [if_pos h]
  · cases this
end DL
end

section
set_option Elab.async false
set_option linter.all false
set_option autoImplicit false
set_option maxRecDepth 100000
/-! evaluating what DL25 .. DL31 added -/
namespace DL
open PySem L2
@[simp] theorem sOwn_ap (i : Nat) (d : D) (ρ : Env) (n : Int) : sOwn i d ρ n = some (.ok (.nx (ρ.set i (.own d))), n) := (rfl)
end DL
end

section
set_option Elab.async false
set_option linter.all false
set_option autoImplicit false
set_option maxRecDepth 100000
/-! evaluating what DL32 added; loops -/
namespace DL
open PySem L2
end DL
end

section
set_option Elab.async false
set_option linter.all false
set_option autoImplicit false
set_option maxRecDepth 100000
/-! evaluating what DL33 .. DL38 added -/
namespace DL
open PySem L2
@[simp] theorem two_tup (a b : D) : two (.tup [a, b]) = some (a, b) := (rfl)
end DL
end

section
set_option Elab.async false
set_option linter.all false
set_option autoImplicit false
set_option maxRecDepth 100000
/-! operators, told by conditions that omega can prove -/
namespace DL
open PySem L2
theorem bindR_assoc {α β γ : Type} (r : Option (Except Xc α × Int)) (k1 : α → M β) (k2 : β → M γ) : bindR (bindR r k1) k2 = bindR r (fun x n => bindR (k1 x n) k2) := by
  cases r with
  | none => rfl
  | some p =>
    obtain ⟨x, n⟩ := p
    cases x <;> rfl
theorem lt_t {a b : Int} (h : a < b) : dLt (.int a) (.int b) = some (.bl true) := by rw [dLt_int, decide_eq_true h]
theorem lt_f {a b : Int} (h : b ≤ a) : dLt (.int a) (.int b) = some (.bl false) := by rw [dLt_int, decide_eq_false (by omega)]
theorem gt_t {a b : Int} (h : b < a) : dGt (.int a) (.int b) = some (.bl true) := by rw [dGt_int, decide_eq_true h]
theorem gt_f {a b : Int} (h : a ≤ b) : dGt (.int a) (.int b) = some (.bl false) := by rw [dGt_int, decide_eq_false (by omega)]
theorem ge_t {a b : Int} (h : b ≤ a) : dGe (.int a) (.int b) = some (.bl true) := by rw [dGe_int, decide_eq_true h]
theorem ge_f {a b : Int} (h : a < b) : dGe (.int a) (.int b) = some (.bl false) := by rw [dGe_int, decide_eq_false (by omega)]
theorem leA_int (a b : Int) : dLeA (.int a) (.int b) = some (.bl (decide (a ≤ b))) := rfl
theorem le_t {a b : Int} (h : a ≤ b) : dLeA (.int a) (.int b) = some (.bl true) := by rw [leA_int, decide_eq_true h]
theorem le_f {a b : Int} (h : b < a) : dLeA (.int a) (.int b) = some (.bl false) := by rw [leA_int, decide_eq_false (by omega)]
theorem eq_t {a b : Int} (h : a = b) : dEq (.int a) (.int b) = some (.bl true) := by rw [dEq_int, decide_eq_true h]
theorem eq_f {a b : Int} (h : a < b ∨ b < a) : dEq (.int a) (.int b) = some (.bl false) := by rw [dEq_int, decide_eq_false (by omega)]
theorem ne_t {a b : Int} (h : a < b ∨ b < a) : dNe (.int a) (.int b) = some (.bl true) := by rw [dNe_int, decide_eq_false (by omega)]; rfl
theorem ne_f {a b : Int} (h : a = b) : dNe (.int a) (.int b) = some (.bl false) := by rw [dNe_int, decide_eq_true h]; rfl
theorem mulR {i j : Int} (h : -1000000 ≤ j ∧ j ≤ 1000000) : dMul (.int i) (.int j) = some (.int (i * j)) := dMul_int (.inr (small64_of h.1 h.2))
theorem mulL {i j : Int} (h : -1000000 ≤ i ∧ i ≤ 1000000) : dMul (.int i) (.int j) = some (.int (i * j)) := dMul_int (.inl (small64_of h.1 h.2))
theorem rng1_nat {k : Nat} (h : k ≤ 1000000) : dRng1 [.int (k : Int)] = some ((List.range k).map fun i : Nat => D.int i) := by
  rw [dRng1_ok (by omega) (by omega)]
  unfold rngD
  simp
theorem tru_bl (b : Bool) : dTru (.bl b) = some b := (rfl)
/-- a list of whole numbers -/
def iL (xs : List Int) : D := .lst (xs.map D.int)
theorem iL_len (xs : List Int) : dLen [iL xs] = some (.int xs.length) := by simp [iL]
theorem iL_items (xs : List Int) : dItems (iL xs) = some (xs.map D.int) := rfl
theorem fst2 (a b : D) : dIx (.tup [a, b]) (.int 0) = some a := (rfl)
theorem snd2 (a b : D) : dIx (.tup [a, b]) (.int 1) = some b := (rfl)
theorem fst3 (a b c : D) : dIx (.tup [a, b, c]) (.int 0) = some a := (rfl)
theorem snd3 (a b c : D) : dIx (.tup [a, b, c]) (.int 1) = some b := (rfl)
theorem trd3 (a b c : D) : dIx (.tup [a, b, c]) (.int 2) = some c := (rfl)
theorem all_nil : dAll [.lst []] = some (.bl true) := (rfl)
theorem sq {g h : SX} {ρ ρ1 : DL.Env} {n n1 : Int} {r : Option (Except Xc Out × Int)} (a : g ρ n = some (.ok (.nx ρ1), n1)) (b : h ρ1 n1 = r) : sSeq g h ρ n = r := by
  rw [sSeq_ap, bind_ap, a, bindR_ok, seqK_nx, b]
/-- comprehensions: over what is told, element by element -/
theorem comp_flt {α : Type} {h : α → D} {b : D → M (Option D)} {n : Int} (g : α → Option D) : ∀ {w : List α}, (∀ x ∈ w, b (h x) n = some (.ok (g x), n)) → compD b (w.map h) n = some (.ok (w.filterMap g), n)
  | [], _ => rfl
  | x :: w, k => by
    have h1 := k x List.mem_cons_self
    have h2 := comp_flt g (w := w) fun y hy => k y (List.mem_cons_of_mem _ hy)
    rw [List.map_cons, compD_cons, bind_ap, h1, bindR_ok, bind_ap, h2, bindR_ok, pure_ap]
    cases e : g x with
    | none => rw [List.filterMap_cons_none e]; rfl
    | some y => rw [List.filterMap_cons_some e]; rfl
theorem comp_of {α : Type} {h : α → D} {b : D → M (Option D)} {n : Int} {w : List α} (g : α → D) (k : ∀ x ∈ w, b (h x) n = some (.ok (some (g x)), n)) : compD b (w.map h) n = some (.ok (w.map g), n) := by
  rw [comp_flt (fun x => some (g x)) k, List.filterMap_eq_map']
theorem while_go {t : TX} {b : SX} {m : Nat} {ρ ρ1 : DL.Env} {n n1 : Int} (e1 : t ρ n = some (.ok true, n)) (e2 : b ρ n = some (.ok (.nx ρ1), n1)) : whileD t b (m + 1) ρ n = whileD t b m ρ1 n1 := by
  rw [whileD_s, bind_ap, e1, bindR_ok, selB_true, bind_ap, e2, bindR_ok, turnK_nx]
theorem while_end {t : TX} {b : SX} {m : Nat} {ρ : DL.Env} {n : Int} (e1 : t ρ n = some (.ok false, n)) : whileD t b (m + 1) ρ n = some (.ok (.nx ρ), n) := by
  rw [whileD_s, bind_ap, e1, bindR_ok, selB_false, pure_ap]
/-- a loop that folds: E s ρ says that ρ holds the state s -/
theorem for_fold {α σ : Type} {h : α → D} {g : GX} {b : SX} {n : Int} (E : σ → DL.Env → Prop) (F : σ → α → σ) : ∀ {xs : List α}, (∀ x ∈ xs, ∀ s ρ, E s ρ → ∃ ρ1 ρ2, g (h x) ρ = some ρ1 ∧ b ρ1 n = some (.ok (.nx ρ2), n) ∧ E (F s x) ρ2) → ∀ {s ρ}, E s ρ → ∃ ρ', forD g b (xs.map h) ρ n = some (.ok (.nx ρ'), n) ∧ E (xs.foldl F s) ρ'
  | [], _, s, ρ, e => ⟨ρ, rfl, e⟩
  | x :: xs, k, s, ρ, e => by
    obtain ⟨ρ1, ρ2, h1, h2, h3⟩ := k x List.mem_cons_self s ρ e
    obtain ⟨ρ', h4, h5⟩ := for_fold E F (xs := xs) (fun y hy => k y (List.mem_cons_of_mem _ hy)) h3
    exact ⟨ρ', by rw [List.map_cons, forD_cons]; simp [h1, h2, h4], h5⟩
/-- a loop with an invariant over how far it is -/
theorem for_pre {α : Type} {h : α → D} {g : GX} {b : SX} {n : Int} (I : List α → DL.Env → Prop) : ∀ {xs ys : List α}, (∀ ys x zs, ys ++ x :: zs = xs → ∀ ρ, I ys ρ → ∃ ρ1 ρ2, g (h x) ρ = some ρ1 ∧ b ρ1 n = some (.ok (.nx ρ2), n) ∧ I (ys ++ [x]) ρ2) → ∀ {zs}, ys ++ zs = xs → ∀ {ρ}, I ys ρ → ∃ ρ', forD g b (zs.map h) ρ n = some (.ok (.nx ρ'), n) ∧ I xs ρ'
  | xs, ys, k, [], e, ρ, i => ⟨ρ, rfl, by rw [List.append_nil] at e; rw [← e]; exact i⟩
  | xs, ys, k, z :: zs, e, ρ, i => by
    obtain ⟨ρ1, ρ2, h1, h2, h3⟩ := k ys z zs e ρ i
    obtain ⟨ρ', h4, h5⟩ := for_pre I k (ys := ys ++ [z]) (zs := zs) (by rw [← e]; simp) h3
    exact ⟨ρ', by rw [List.map_cons, forD_cons]; simp [h1, h2, h4], h5⟩
theorem use_for {β : Type} {g : GX} {b : SX} {ds : List D} {ρ : DL.Env} {n : Int} {K : Out → M β} {R : Option (Except Xc β × Int)} (I : DL.Env → Prop) (a : ∃ ρ', forD g b ds ρ n = some (.ok (.nx ρ'), n) ∧ I ρ') (k : ∀ ρ', I ρ' → K (.nx ρ') n = R) : bindR (forD g b ds ρ n) K = R := by
  obtain ⟨ρ', e, i⟩ := a
  rw [e, bindR_ok]
  exact k ρ' i
/-- a slot that holds what nobody looks at -/
def jS (o : Option D) : Sl := match o with | some d => .val d | none => .no
theorem hide_j (o : Option D) (r : DL.Env) : hide (jS o :: r) = jS o :: hide r := by cases o <;> rfl
theorem filterMap_if {α β : Type} (p : α → Bool) (f : α → β) : ∀ w : List α, w.filterMap (fun x => if p x then some (f x) else none) = (w.filter p).map f
  | [] => rfl
  | x :: w => by
    rw [List.filterMap_cons, List.filter_cons, filterMap_if p f w]
    cases p x <;> simp
end DL
end

section
set_option Elab.async false
set_option linter.all false
set_option autoImplicit false
set_option maxRecDepth 100000
/-! evaluating what DL39 .. DL41 added -/
namespace DL
open PySem L2
@[simp] theorem hide_mob (d : D) (f : Str) (r : DL.Env) : hide (.mob d f :: r) = .no :: hide r := (rfl)
end DL
end

section
set_option Elab.async false
set_option linter.all false
set_option autoImplicit false
set_option maxRecDepth 100000
/-! evaluating what DL46 .. DL48 added -/
namespace DL
open PySem L2
def dispO (kvs : List (Key × D)) : Option D := if kvs.length ≤ 15 then some (mkDic kvs) else none
@[simp] theorem eDisp_ap (ps : List (EX × EX)) (ρ : DL.Env) (n : Int) : eDisp ps ρ n = M.bind (dispK ps (hide ρ)) (fun kvs => M.opt (dispO kvs)) n := (rfl)
@[simp] theorem dispK_nil (ρ : DL.Env) (n : Int) : dispK [] ρ n = some (.ok [], n) := (rfl)
@[simp] theorem dispK_cons (p : EX × EX) (r : List (EX × EX)) (ρ : DL.Env) (n : Int) : dispK (p :: r) ρ n = M.bind (M.calm (p.1 ρ)) (fun k => M.bind (M.calm (p.2 ρ)) fun v => M.bind (M.opt (keyD k)) fun key => M.bind (dispK r ρ) fun rest => M.pure ((key, v) :: rest)) n := (rfl)
@[simp] theorem keyD_str (x : Str) : keyD (.str x) = some (.inr x) := (rfl)
@[simp] theorem keyD_int (i : Int) : keyD (.int i) = some (.inl i) := (rfl)
def frzS (s : Sl) : Option DL.Env → Option DL.Env
  | some r => some (s :: r)
  | none => none
@[simp] theorem frzE_0 (ds : List D) (r : DL.Env) : frzE 0 (.own (.lst ds) :: r) = some (.val (.lst ds) :: r) := (rfl)
@[simp] theorem frzE_0d (ks : List Key) (ds : List D) (r : DL.Env) : frzE 0 (.own (.dic ks ds) :: r) = some (.val (.dic ks ds) :: r) := (rfl)
@[simp] theorem frzS_some (s : Sl) (r : DL.Env) : frzS s (some r) = some (s :: r) := (rfl)
@[simp] theorem frzE_s (i : Nat) (s : Sl) (r : DL.Env) : frzE (i + 1) (s :: r) = frzS s (frzE i r) := by
  show (own? r i).bind _ = frzS s ((own? r i).bind _)
  cases own? r i with
  | none => rfl
  | some d =>
    show (if isO d then none else some (s :: r.set i (.val d))) = frzS s (if isO d then none else some (r.set i (.val d)))
    cases isO d <;> rfl
/-- a loop whose body draws -/
theorem for_draw {α : Type} {h : α → D} {g : GX} {b : SX} (I : List α → DL.Env → Prop) : ∀ {xs ys : List α}, (∀ ys x zs, ys ++ x :: zs = xs → ∀ ρ n, I ys ρ → ∃ ρ1 ρ2 n', g (h x) ρ = some ρ1 ∧ b ρ1 n = some (.ok (.nx ρ2), n') ∧ I (ys ++ [x]) ρ2) → ∀ {zs}, ys ++ zs = xs → ∀ {ρ : DL.Env} {n : Int}, I ys ρ → ∃ ρ' n', forD g b (zs.map h) ρ n = some (.ok (.nx ρ'), n') ∧ I xs ρ'
  | xs, ys, k, [], e, ρ, n, i => ⟨ρ, n, rfl, by rw [List.append_nil] at e; rw [← e]; exact i⟩
  | xs, ys, k, z :: zs, e, ρ, n, i => by
    obtain ⟨ρ1, ρ2, n1, h1, h2, h3⟩ := k ys z zs e ρ n i
    obtain ⟨ρ', n', h4, h5⟩ := for_draw I k (ys := ys ++ [z]) (zs := zs) (by rw [← e]; simp) (n := n1) h3
    exact ⟨ρ', n', by rw [List.map_cons, forD_cons]; simp [h1, h2, h4], h5⟩
/-! try bodies -/
end DL
end

section
set_option Elab.async false
set_option linter.all false
set_option autoImplicit false
set_option maxRecDepth 100000
/-! evaluating what DL49 .. DL52 added -/
namespace DL
open PySem L2
@[simp] theorem sPut_ap (i : Nat) (fk fv : EX) (ρ : DL.Env) (n : Int) : sPut i fk fv ρ n = M.bind (fv ρ) (fun d => M.bind (M.opt (own? ρ i)) fun _ => M.bind (fk ρ) fun k => M.bind (M.opt ((own? ρ i).bind (dPut (k, d)))) fun o => M.pure (.nx (ρ.set i (.own o)))) n := (rfl)
end DL
end

section
set_option Elab.async false
set_option linter.all false
set_option autoImplicit false
set_option maxRecDepth 100000
/-! evaluating what DL54 added -/
namespace DL
open PySem L2
end DL
end

section
set_option Elab.async false
set_option linter.all false
set_option autoImplicit false
set_option maxRecDepth 100000
/-! evaluating what DL62 .. DL65 added; dicts out of comprehensions -/
namespace DL
open PySem L2
@[simp] theorem iKeyD_ap (f : EX) (ρ : DL.Env) (n : Int) : iKeyD f ρ n = M.bind (f ρ) (fun d => M.opt ((dKV d).map (·.1))) n := (rfl)
@[simp] theorem iItmD_ap (f : EX) (ρ : DL.Env) (n : Int) : iItmD f ρ n = M.bind (f ρ) (fun d => M.opt ((dKV d).map fun q => prsD q.1 q.2)) n := (rfl)
@[simp] theorem iRgoD_ap (f : EX) (ρ : DL.Env) (n : Int) : iRgoD f ρ n = M.bind (f ρ) (fun d => M.opt (dRgo d)) n := (rfl)
@[simp] theorem dEq0_dic (ks : List Key) (ds : List D) : dEq0 (.dic ks ds) = some (.bl ks.isEmpty) := (rfl)
@[simp] theorem dLenA_dic (ks : List Key) (ds : List D) : dLenA [.dic ks ds] = some (.int ks.length) := (rfl)
@[simp] theorem dRngV_ap (i j : Int) : dRngV [.int i, .int j] = some (.rng i j) := (rfl)
@[simp] theorem dDictA_dic (ks : List Key) (ds : List D) : dDictA [.dic ks ds] = some (.dic ks ds) := (rfl)
@[simp] theorem eDComp_ap9 (vs : List Nat) (g : GX) (it : IX) (t : TX) (fk fv : EX) (ρ : DL.Env) (n : Int) : eDComp vs g it t fk fv ρ n = M.bind (it ρ) (fun ds => M.bind (M.calm (dcompD (dcompB vs g t fk fv ρ) ds [] [])) fun r => M.pure (.dic r.1 r.2)) n := (rfl)
@[simp] theorem dcompB_ap9 (vs : List Nat) (g : GX) (t : TX) (fk fv : EX) (ρ : DL.Env) (d : D) (n : Int) : dcompB vs g t fk fv ρ d n = M.bind (M.opt (g d (hide (wipeD ρ vs)))) (fun ρ1 => M.bind (t ρ1) fun b => selB b (M.bind (fk ρ1) fun y => M.bind (M.opt (keyD y)) fun k => M.bind (fv ρ1) fun z => M.pure (some (k, z))) (M.pure none)) n := by
  show M.bind _ _ n = M.bind _ _ n
  congr 1
theorem dAbs9 (i : Int) : dAbs [.int i] = some (.int (i.natAbs : Int)) := by
  show some (D.int (if i < 0 then -i else i)) = _
  congr 2
  split <;> omega
theorem dMax9 (i j : Int) : dMax2 [.int i, .int j] = some (.int (max i j)) := by
  show some (D.int (if j > i then j else i)) = _
  congr 2
  split <;> omega
theorem dMin9 (i j : Int) : dMin2 [.int i, .int j] = some (.int (min i j)) := by
  show some (D.int (if j < i then j else i)) = _
  congr 2
  split <;> omega
theorem isi_it9 (i : Int) : dIsi "int" (.int i) = some (.bl true) := by kernel_rfl
theorem isi_bl9 (i : Int) : dIsi "bool" (.int i) = some (.bl false) := by kernel_rfl
theorem isi_tup9 (ds : List D) : dIsi "tuple" (.tup ds) = some (.bl true) := by kernel_rfl
theorem dkKs_len {ks : List Key} {k : Key} : (dkKs ks k).length ≤ ks.length + 1 := by
  unfold dkKs
  split
  · omega
  · simp
theorem dcomp_of {α : Type} {h : α → D} {b : D → M (Option (Key × D))} {n : Int} (k : α → Key) (v : α → D) : ∀ {w : List α} {ks : List Key} {ds : List D}, ks.length + w.length ≤ 1000 → (∀ x ∈ w, b (h x) n = some (.ok (some (k x, v x)), n)) → dcompD b (w.map h) ks ds n = some (.ok (putAll ks ds (w.map fun x => (k x, v x))), n)
  | [], _, _, _, _ => rfl
  | x :: w, ks, ds, l, e => by
    have h1 := e x List.mem_cons_self
    have h2 := dcomp_of k v (w := w) (ks := dkKs ks (k x)) (ds := dkDs ks ds (k x) (v x)) (by have := @dkKs_len ks (k x); simp at l; omega) fun y hy => e y (List.mem_cons_of_mem _ hy)
    have hs : ks.length < sizeLine := by simp at l; unfold sizeLine; omega
    show M.bind (b (h x)) _ n = _
    rw [bind_ap, h1, bindR_ok]
    show (if ks.length < sizeLine then _ else _ : M _) n = _
    rw [if_pos hs]
    exact h2
theorem putAll_nd {α : Type} : ∀ {kvs : List (Key × α)} {ks : List Key} {ds : List α}, (ks ++ kvs.map (·.1)).Nodup → putAll ks ds kvs = (ks ++ kvs.map (·.1), ds ++ kvs.map (·.2))
  | [], ks, ds, _ => by simp [putAll]
  | q :: r, ks, ds, h => by
    have hq : (ks.any fun x => decide (x = q.1)) = false := by
      rw [List.any_eq_false]
      intro x hx
      rw [decide_eq_true_eq]
      rintro rfl
      rw [List.nodup_append] at h
      exact h.2.2 _ hx _ (by simp) rfl
    unfold putAll
    have e1 : dkKs ks q.1 = ks ++ [q.1] := by unfold dkKs; rw [hq]; rfl
    have e2 : dkDs ks ds q.1 q.2 = ds ++ [q.2] := by unfold dkDs; rw [hq]; rfl
    rw [e1, e2, putAll_nd (by simpa using h)]
    simp
theorem valD_map {α : Type} {f : α → Key} {g : α → D} : ∀ {w : List α} {x : α}, (w.map f).Nodup → x ∈ w → valD (w.map f) (w.map g) (f x) = some (g x)
  | [], _, _, h => by cases h
  | y :: w, x, nd, h => by
    rw [List.map_cons, List.nodup_cons] at nd
    rw [List.map_cons, List.map_cons]
    unfold valD
    rcases List.mem_cons.mp h with rfl | h
    · rw [if_pos rfl]
    · have hne : ¬ f y = f x := fun e => nd.1 (by rw [e]; exact List.mem_map_of_mem h)
      rw [if_neg hne, valD_map nd.2 h]
theorem pairsD_map {α : Type} {f : α → Key} {g : α → D} : ∀ {w : List α}, (∀ x ∈ w, True) → pairsD (w.map fun x => D.tup [kD (f x), g x]) = some (w.map fun x => (f x, g x))
  | [], _ => rfl
  | x :: w, _ => by
    have ih := pairsD_map (f := f) (g := g) (w := w) fun _ _ => trivial
    rw [List.map_cons, List.map_cons]
    unfold pairsD
    rw [ih]
    cases f x <;> rfl
end DL
end

set_option maxRecDepth 100000
local macro_rules
  | `(tactic| simp_arith [$ts,*]) => `(tactic| simp (disch := first | omega | (simp only [List.length_cons, List.length_nil, List.length_map, List.length_range, List.length_append] <;> omega) | assumption) only [DL.bind_ap, DL.pure_ap, DL.opt_some, DL.opt_none, DL.bindR_ok, DL.bindR_none, DL.bindR_err, DL.bindR_assoc, DL.selB_true, DL.selB_false, DL.seqK_nx, DL.seqK_rn, DL.turnK_rn, DL.seqK_bk, DL.seqK_ct, DL.seqK_ret, DL.runK_ret, DL.runK_nx, DL.runIK_nx, DL.turnK_nx, DL.turnK_ct, DL.turnK_bk, DL.turnK_ret, DL.makeK_obj, DL.chainK_true, DL.chainK_false, DL.consO_some, DL.consO_none, DL.eVar_0, DL.eVar_s, DL.eC_ap, DL.eNil_ap, DL.eCons_ap, DL.eTup_ap, DL.eLst_ap, DL.e2_ap, DL.e1_ap, DL.eB_ap, DL.eCall_ap, DL.eMake_ap, DL.eMeth_ap, DL.eIf_ap, DL.eAnd_ap, DL.eNot_ap, DL.eChain_ap, DL.tB_ap, DL.tTru_ap, DL.tOrD_ap, DL.tNotD_ap, DL.tYesD_ap, DL.dBool_bl, DL.dTru_bl, DL.isNon_non, DL.isNon_int, DL.isNon_tup, DL.sNx_ap, DL.sSeq_ap, DL.sRet_ap, DL.sExp_ap, DL.sAsg_ap, DL.sIf_ap, DL.sFor_ap, DL.sWhile_ap, DL.sUp_ap, DL.sPar_ap, DL.own_0, DL.own_s, DL.gV_ap, DL.gT_ap, DL.gsN_ap, DL.gsC_ap, DL.iOf_ap, DL.iRng1D_ap, DL.iRng2D_ap, DL.dItems_tup, DL.dItems_lst, DL.calmR_ok, DL.calm_ap, DL.eComp_ap, DL.compB_ap, DL.hide_nil, DL.hide_no, DL.hide_val, DL.hide_own, DL.hide_j, DL.wipeD_nil, DL.wipeD_cons, DL.runD_ap, DL.runI_ap, DL.forD_nil, DL.sFrz_ap, DL.sOwn_ap, DL.gz_of, DL.hide_mob, DL.two_tup, DL.dAdd_int, DL.dSub_int, DL.dNeg_int, DL.dLen_tup, DL.dLen_lst, DL.lt_t, DL.lt_f, DL.gt_t, DL.gt_f, DL.ge_t, DL.ge_f, DL.le_t, DL.le_f, DL.eq_t, DL.eq_f, DL.ne_t, DL.ne_f, DL.mulR, DL.mulL, DL.dMod_int, DL.dDiv_int, DL.tru_bl, DL.iL_len, DL.iL_items, DL.fst2, DL.snd2, DL.fst3, DL.snd3, DL.trd3, DL.all_nil, DL.mkTup_of, DL.mkLst_of, List.map_cons, List.map_nil, List.cons_append, List.nil_append, List.set_cons_zero, List.set_cons_succ, List.length_cons, List.length_nil, List.length_map, List.length_range, List.replicate_succ, List.replicate_zero, List.foldl_cons, List.foldl_nil, List.zip_cons_cons, List.zip_nil_right, Option.bind_some, Option.bind_none, Bool.not_true, Bool.not_false, Bool.and_true, Bool.true_and, Bool.and_false, Bool.false_and, Bool.or_true, Bool.true_or, Bool.or_false, Bool.false_or, if_true, if_false, DL.eDisp_ap, DL.dispK_nil, DL.dispK_cons, DL.keyD_str, DL.keyD_int, DL.frzE_0, DL.frzE_0d, DL.frzE_s, DL.frzS_some, DL.iKeyD_ap, DL.iItmD_ap, DL.iRgoD_ap, DL.dEq0_dic, DL.dLenA_dic, DL.dRngV_ap, DL.dDictA_dic, DL.eDComp_ap9, DL.dcompB_ap9, DL.sPut_ap, DL.dAbs9, DL.dMax9, DL.dMin9, DL.isi_it9, DL.isi_bl9, DL.isi_tup9, $ts,*])

section
set_option Elab.async false
set_option linter.all false
set_option autoImplicit false
set_option maxRecDepth 100000
set_option maxHeartbeats 400000

namespace K73
open DL PySem L2 P_k73_whole_grades PyProof.Rows
theorem atI_in {α : Type} (xs : List α) (j : Int) (h0 : 0 ≤ j) (h1 : j < xs.length) : ∃ x, atI xs j = some x := by
  obtain ⟨k, rfl⟩ : ∃ k : Nat, j = (k : Int) := ⟨j.toNat, by omega⟩
  have : k < xs.length := by omega
  exact ⟨xs[k], atI_nat (by simp [this])⟩
theorem mul_r (i j : Int) (h : -1000000 ≤ j) (h2 : j ≤ 1000000) : dMul (.int i) (.int j) = some (.int (i * j)) := dMul_int (.inr (small64_of h h2))
theorem mul_l (i j : Int) (h : -1000000 ≤ i) (h2 : i ≤ 1000000) : dMul (.int i) (.int j) = some (.int (i * j)) := dMul_int (.inl (small64_of h h2))
theorem number_ok (W : Wd) (i n : Int) : ∃ v : Int, f__law_number W [.scr, .int i] n = some (.ok (.int v), n) := by
  have m1 := fun x => mul_r x 48271 (by omega) (by omega)
  have m2 := fun x => mul_r x 69621 (by omega) (by omega)
  have m3 := fun x => mul_r x 16807 (by omega) (by omega)
  have m4 := fun x => mul_l 977 x (by omega) (by omega)
  have m5 := fun x => mul_l 31 x (by omega) (by omega)
  have d1 := fun x => dMod_int (i := x) (j := 2147483647) (by omega)
  have d2 := fun x => dMod_int (i := x) (j := 2147483629) (by omega)
  have d3 := fun x => dMod_int (i := x) (j := 2147483587) (by omega)
  have nil : dScrNil W .scr (.lst []) = some (.bl W.ns.isEmpty) := rfl
  have len : dLenS W [.scr] = some (.int W.ns.length) := rfl
  have int : ∀ x, dInt [.int x] = some (.int x) := fun _ => rfl
  cases he : W.ns.isEmpty with
  | true =>
    rw [he] at nil
    simp only [f__law_number, g__law_number]
    simp [nil, m1, d1, int]
  | false =>
    rw [he] at nil
    have hl : 0 < W.ns.length := by
      cases hn : W.ns with
      | nil => rw [hn] at he; cases he
      | cons a b => simp
    have hl' : (0 : Int) < (W.ns.length : Int) := by omega
    have d0 := fun x => dMod_int (i := x) (j := (W.ns.length : Int)) hl'
    obtain ⟨x, hx⟩ := atI_in W.ns (i % (W.ns.length : Int)) (Int.emod_nonneg _ (by omega)) (Int.emod_lt_of_pos _ hl')
    have ix : dIxS W .scr (.int (i % (W.ns.length : Int))) = some (.int x) := by
      show (atI W.ns _).map D.int = _
      rw [hx]; rfl
    obtain ⟨p60, e60⟩ : ∃ p60 : Int, dPow (.int 10) (.int 60) = some (.int p60) := ⟨_, rfl⟩
    have e18 : dPow (.int 10) (.int 18) = some (.int 1000000000000000000) := rfl
    have d18 := fun x => dMod_int (i := x) (j := 1000000000000000000) (by omega)
    have ab : dAbs [.int x] = some (.int (if x < 0 then -x else x)) := rfl
    obtain ⟨y, hy⟩ : ∃ y, y = (if x < 0 then -x else x) := ⟨_, rfl⟩
    rw [← hy] at ab
    simp only [f__law_number, g__law_number]
    by_cases hb : p60 ≤ y
    · simp [nil, len, d0, ix, ab, e60, hb, e18, d18, m4, m1, m5, d1, m2, d2, m3, d3, int]
    · simp [nil, len, d0, ix, ab, e60, hb, m4, m1, m5, d1, m2, d2, m3, d3, int]
theorem take_ok (W : Wd) (m n : Int) (h : 0 < m) : ∃ v : Int, 0 ≤ v ∧ v < m ∧ f__law_take W [.drw, .int m] n = some (.ok (.int v), n + 1) := by
  obtain ⟨v, hv⟩ := number_ok W (n + 1) (n + 1)
  refine ⟨v % m, Int.emod_nonneg _ (by omega), Int.emod_lt_of_pos _ h, ?_⟩
  have int : ∀ x, dInt [.int x] = some (.int x) := fun _ => rfl
  have s1 : ∀ n, sDrw (eVar 0) [.val .drw, .val (.int m)] n = some (.ok (.nx [.val .drw, .val (.int m)]), n + 1) := fun n => rfl
  have s2 : ∀ n, eDrw0 (eVar 0) [.val .drw, .val (.int m)] n = some (.ok .scr, n) := fun n => rfl
  have s3 : ∀ n, eDrw1 (eVar 0) [.val .drw, .val (.int m)] n = some (.ok (.int n), n) := fun n => rfl
  simp only [f__law_take, g__law_take]
  simp [s1, s2, s3, int, hv, dMod_int h]

end K73
end

section
set_option Elab.async false
set_option linter.all false
set_option autoImplicit false
set_option maxRecDepth 100000
set_option maxHeartbeats 400000

namespace K73
open DL PySem L2 P_k73_whole_grades PyProof.Rows
/-! ### fractions over one denominator -/
def NN : Int := 9690712164777231700912800
theorem nn_pos : 0 < NN := by decide
def cq (q : Int) : Int := NN / q
theorem cq_all : ∀ q : Fin 61, 1 ≤ q.val → cq (q.val : Int) * (q.val : Int) = NN ∧ 0 < cq (q.val : Int) := by decide +kernel
theorem cq_ok {q : Int} (h1 : 1 ≤ q) (h2 : q ≤ 60) : cq q * q = NN ∧ 0 < cq q := by
  have := cq_all ⟨q.toNat, by omega⟩ (by show 1 ≤ q.toNat; omega)
  have e : ((⟨q.toNat, by omega⟩ : Fin 61).val : Int) = q := by show (q.toNat : Int) = q; omega
  rw [e] at this
  exact this
theorem mul_mono {a b c : Int} (h : a ≤ b) (hc : 0 < c) : a * c ≤ b * c := Int.mul_le_mul_of_nonneg_right h (by omega)
theorem mul_lt {a b c : Int} (hc : 0 < c) : a * c < b * c ↔ a < b := by
  constructor
  · intro h
    rcases Int.lt_or_le a b with h1 | h1
    · exact h1
    · have := mul_mono h1 hc
      omega
  · intro h
    exact Int.mul_lt_mul_of_pos_right h hc
theorem mul_eq {a b c : Int} (hc : 0 < c) : a * c = b * c ↔ a = b := by
  constructor
  · intro h
    rcases Int.lt_trichotomy a b with h1 | h1 | h1
    · have := (mul_lt hc).mpr h1
      omega
    · exact h1
    · have := (mul_lt hc).mpr h1
      omega
  · intro h; rw [h]
abbrev Pr := Int × Int
def QOk (x : Pr) : Prop := 1 ≤ x.2 ∧ x.2 ≤ 60
def vl (x : Pr) : Int := x.1 * cq x.2
theorem cross {x y : Pr} (hx : QOk x) (hy : QOk y) : ∃ k : Int, 0 < k ∧ x.1 * y.2 * k = vl x * NN ∧ y.1 * x.2 * k = vl y * NN := by
  have h1 := cq_ok hx.1 hx.2
  have h2 := cq_ok hy.1 hy.2
  refine ⟨cq x.2 * cq y.2, Int.mul_pos h1.2 h2.2, ?_, ?_⟩
  · unfold vl
    rw [← h2.1]
    ac_rfl
  · unfold vl
    rw [← h1.1]
    ac_rfl
theorem less_vl {x y : Pr} (hx : QOk x) (hy : QOk y) : x.1 * y.2 < y.1 * x.2 ↔ vl x < vl y := by
  obtain ⟨k, k0, e1, e2⟩ := cross hx hy
  rw [← mul_lt k0, e1, e2, mul_lt nn_pos]
theorem same_vl {x y : Pr} (hx : QOk x) (hy : QOk y) : x.1 * y.2 = y.1 * x.2 ↔ vl x = vl y := by
  obtain ⟨k, k0, e1, e2⟩ := cross hx hy
  rw [← mul_eq k0, e1, e2, mul_eq nn_pos]
/-! ### measures -/
structure Ms where
  s : Int
  p : Int
  q : Int
  deriving DecidableEq
structure Ms.Ok (m : Ms) : Prop where
  s0 : 0 ≤ m.s
  s8 : m.s ≤ 8
  p0 : -10000 ≤ m.p
  p1 : m.p ≤ 10000
  q1 : 1 ≤ m.q
  q60 : m.q ≤ 60
def rs (e : Int) (m : Ms) : Pr := (m.p - e * m.s * m.q, m.q)
def rest (e : Int) (m : Ms) : Int := m.p * cq m.q - e * m.s * NN
theorem rs_ok {e : Int} {m : Ms} (h : m.Ok) : QOk (rs e m) := ⟨h.q1, h.q60⟩
theorem rs_vl {e : Int} {m : Ms} (h : m.Ok) : vl (rs e m) = rest e m := by
  unfold vl rs rest
  rw [Int.sub_mul, ← (cq_ok h.q1 h.q60).1]
  congr 1
  ac_rfl
def dst (b e : Int) (m : Ms) : Pr := (((b + e * m.s) * m.q - m.p).natAbs, m.q)
theorem dst_ok {b e : Int} {m : Ms} (h : m.Ok) : QOk (dst b e m) := ⟨h.q1, h.q60⟩
theorem dst_vl {b e : Int} {m : Ms} (h : m.Ok) : vl (dst b e m) = ((b * NN - rest e m).natAbs : Int) := by
  unfold vl dst rest
  have h1 := cq_ok h.q1 h.q60
  have e1 : ((cq m.q).natAbs : Int) = cq m.q := by omega
  show (((b + e * m.s) * m.q - m.p).natAbs : Int) * cq m.q = _
  rw [← e1, ← Int.natCast_mul, ← Int.natAbs_mul, e1]
  congr 2
  rw [Int.sub_mul, Int.mul_assoc, Int.mul_comm m.q, h1.1, Int.add_mul]
  omega
/-! ### the greatest distance -/
def stp (a x : Pr) : Pr := if a.1 * x.2 < x.1 * a.2 then x else a
theorem stp_ok {a x : Pr} (ha : QOk a) (hx : QOk x) : QOk (stp a x) := by
  unfold stp
  split
  · exact hx
  · exact ha
theorem stp_vl {a x : Pr} (ha : QOk a) (hx : QOk x) : vl (stp a x) = max (vl a) (vl x) := by
  unfold stp
  have := less_vl ha hx
  split
  · rename_i h
    have := this.mp h
    omega
  · rename_i h
    have : ¬ vl a < vl x := fun z => h (this.mpr z)
    omega
theorem stp_or (a x : Pr) : stp a x = a ∨ stp a x = x := by
  unfold stp
  split
  · exact .inr rfl
  · exact .inl rfl
theorem fold_stp : ∀ {xs : List Pr} {a : Pr}, QOk a → (∀ x ∈ xs, QOk x) → QOk (xs.foldl stp a) ∧ vl a ≤ vl (xs.foldl stp a) ∧ (∀ x ∈ xs, vl x ≤ vl (xs.foldl stp a)) ∧ (xs.foldl stp a = a ∨ xs.foldl stp a ∈ xs)
  | [], a, ha, _ => ⟨ha, Int.le_refl _, fun x h => (List.not_mem_nil h).elim, .inl rfl⟩
  | x :: xs, a, ha, hx => by
    have h1 := hx x List.mem_cons_self
    obtain ⟨i1, i2, i3, i4⟩ := fold_stp (xs := xs) (a := stp a x) (stp_ok ha h1) fun y hy => hx y (List.mem_cons_of_mem _ hy)
    have h2 := stp_vl ha h1
    rw [List.foldl_cons]
    refine ⟨i1, by omega, fun y hy => ?_, ?_⟩
    · rcases List.mem_cons.mp hy with rfl | hy
      · omega
      · exact i3 y hy
    · rcases i4 with i4 | i4
      · rcases stp_or a x with e | e
        · exact .inl (i4.trans e)
        · exact .inr (by rw [i4, e]; exact List.mem_cons_self)
      · exact .inr (List.mem_cons_of_mem _ i4)
def gr (T : List Ms) (b e : Int) : Pr := (T.map (dst b e)).foldl stp (0, 1)
def OkM (T : List Ms) : Prop := ∀ m ∈ T, m.Ok
theorem gr_spec {T : List Ms} (h : OkM T) (b e : Int) : QOk (gr T b e) ∧ 0 ≤ vl (gr T b e) ∧ (∀ m ∈ T, vl (dst b e m) ≤ vl (gr T b e)) ∧ (gr T b e = (0, 1) ∨ ∃ m ∈ T, gr T b e = dst b e m) := by
  have q : QOk (0, 1) := ⟨by decide, by decide⟩
  obtain ⟨h1, h2, h3, h4⟩ := fold_stp (xs := T.map (dst b e)) (a := (0, 1)) q fun x hx => by
    obtain ⟨m, hm, rfl⟩ := List.mem_map.mp hx
    exact dst_ok (h m hm)
  refine ⟨h1, ?_, fun m hm => h3 _ (List.mem_map_of_mem hm), ?_⟩
  · have e0 : vl (0, 1) = 0 := by unfold vl; exact Int.zero_mul _
    unfold gr
    omega
  · rcases h4 with h4 | h4
    · exact .inl h4
    · obtain ⟨m, hm, e1⟩ := List.mem_map.mp h4
      exact .inr ⟨m, hm, e1.symm⟩
/-- h and l are greatest and least of what is left without the rise -/
structure Ext (T : List Ms) (e : Int) (h l : Ms) : Prop where
  hm : h ∈ T
  lm : l ∈ T
  hi : ∀ m ∈ T, rest e m ≤ rest e h
  lo : ∀ m ∈ T, rest e l ≤ rest e m
def gv (H L b : Int) : Int := max (b * NN - L) (H - b * NN)
theorem gr_gv {T : List Ms} (hT : OkM T) {b e : Int} {h l : Ms} (x : Ext T e h l) : vl (gr T b e) = gv (rest e h) (rest e l) b := by
  obtain ⟨_, h2, h3, h4⟩ := gr_spec hT b e
  have a1 := h3 h x.hm
  have a2 := h3 l x.lm
  rw [dst_vl (hT h x.hm)] at a1
  rw [dst_vl (hT l x.lm)] at a2
  have a3 := x.hi l x.lm
  unfold gv
  rcases h4 with h4 | ⟨m, hm, h4⟩
  · have e0 : vl (gr T b e) = 0 := by rw [h4]; unfold vl; exact Int.zero_mul _
    rw [e0] at a1 a2 ⊢
    omega
  · have a4 := x.hi m hm
    have a5 := x.lo m hm
    rw [h4, dst_vl (hT m hm)] at a1 a2 ⊢
    omega
def clp (b : Int) : Int := max (-99) (min 99 b)
def nbm (H L : Int) : Int := (H + L) / (2 * NN)
def nb (H L : Int) : Int := if gv H L (clp (nbm H L + 1)) < gv H L (clp (nbm H L)) then clp (nbm H L + 1) else clp (nbm H L)
theorem nb_in (H L : Int) : -99 ≤ nb H L ∧ nb H L ≤ 99 := by
  unfold nb clp
  split <;> omega
theorem nb_best (H L b : Int) (h1 : -99 ≤ b) (h2 : b ≤ 99) : gv H L (nb H L) ≤ gv H L b := by
  have k0 : gv H L (nb H L) ≤ gv H L (clp (nbm H L + 1)) ∧ gv H L (nb H L) ≤ gv H L (clp (nbm H L)) := by
    unfold nb
    split <;> omega
  have hp := nn_pos
  have m1 : 2 * NN * nbm H L ≤ H + L := by
    have := Int.mul_ediv_self_le (x := H + L) (k := 2 * NN) (by omega)
    exact this
  have m2 : H + L < 2 * NN * nbm H L + 2 * NN := by
    exact Int.lt_mul_ediv_self_add (x := H + L) (k := 2 * NN) (by omega)
  generalize nbm H L = m at *
  rw [Int.mul_assoc, Int.mul_comm NN] at m1 m2
  rcases Int.lt_or_le m b with hb | hb
  · have c1 : m + 1 ≤ clp (m + 1) ∧ clp (m + 1) ≤ b := by unfold clp; omega
    have d1 := mul_mono c1.1 hp
    have d2 := mul_mono c1.2 hp
    rw [Int.add_mul] at d1
    have k1 := k0.1
    generalize gv H L (nb H L) = G at *
    unfold gv at *
    omega
  · have c1 : clp m ≤ m ∧ b ≤ clp m := by unfold clp; omega
    have d1 := mul_mono c1.1 hp
    have d2 := mul_mono c1.2 hp
    have k1 := k0.2
    generalize gv H L (nb H L) = G at *
    unfold gv at *
    omega
end K73
end

section
set_option Elab.async false
set_option linter.all false
set_option autoImplicit false
set_option maxRecDepth 100000
set_option maxHeartbeats 400000

namespace K73
open DL PySem L2 P_k73_whole_grades PyProof.Rows
def Ms.d (m : Ms) : D := .tup [.int m.p, .int m.q]
def prD (x : Pr) : D := .tup [.int x.1, .int x.2]
def lnD (b e : Int) : D := .tup [.int b, .int e]
def Ms.k (m : Ms) : Key := .inl m.s
def tD (T : List Ms) : D := .dic (T.map Ms.k) (T.map Ms.d)
def itD (m : Ms) : D := .tup [.int m.s, m.d]
structure OkT (T : List Ms) : Prop where
  ne : T ≠ []
  nd : (T.map Ms.k).Nodup
  len : T.length ≤ 9
  ok : OkM T
theorem items_tD (T : List Ms) : (dKV (tD T)).map (fun q => prsD q.1 q.2) = some (T.map itD) := by
  show some (prsD ((T.map Ms.k).map kD) (T.map Ms.d)) = _
  congr 1
  unfold prsD
  rw [List.map_map]
  induction T with
  | nil => rfl
  | cons m r ih => rw [List.map_cons, List.map_cons, List.zip_cons_cons, List.map_cons, List.map_cons, ih]; rfl
theorem number_int (i n : Int) : f_is_number [.int i] n = some (.ok (.bl true), n) := by kernel_rfl
theorem fraction_ok {m : Ms} (h : m.Ok) (n : Int) : f_is_fraction [m.d] n = some (.ok (.bl true), n) := by
  have h1 := h.p0
  have h2 := h.p1
  have h3 := h.q1
  have h4 := h.q60
  have e0 : [D.int m.p, D.int m.q] = [m.p, m.q].map D.int := rfl
  have e1 : dAll [.lst [.bl true, .bl true]] = some (.bl true) := by kernel_rfl
  unfold f_is_fraction g_is_fraction Ms.d
  simp_arith [dLen_tup]
  rw [e0, comp_of (fun _ => .bl true) fun x hx => by simp_arith [number_int]]
  simp_arith [e1]
theorem worth_ok (b e s n : Int) (h : -1000000 ≤ s ∧ s ≤ 1000000) : f_worth [lnD b e, .int s] n = some (.ok (.int (b + e * s)), n) := by
  unfold f_worth g_worth lnD
  simp_arith []
theorem distance_ok (b e n : Int) {m : Ms} (h : m.Ok) : f_distance [lnD b e, .int m.s, m.d] n = some (.ok (prD (dst b e m)), n) := by
  have h1 := h.s0
  have h2 := h.s8
  have h3 := h.q1
  have h4 := h.q60
  have w := worth_ok b e m.s n (by omega)
  unfold f_distance g_distance Ms.d prD dst
  simp_arith [w]
theorem less_ok {x y : Pr} (hx : QOk x) (hy : QOk y) (n : Int) : f_is_less [prD x, prD y] n = some (.ok (.bl (decide (x.1 * y.2 < y.1 * x.2))), n) := by
  have h1 := hx.1
  have h2 := hx.2
  have h3 := hy.1
  have h4 := hy.2
  unfold f_is_less g_is_less prD
  simp_arith [dLt_int]
theorem lless_ok {x y : Pr} (hx : QOk x) (hy : QOk y) (n : Int) : f__law_less [prD x, prD y] n = some (.ok (.bl (decide (x.1 * y.2 < y.1 * x.2))), n) := by
  have h1 := hx.1
  have h2 := hx.2
  have h3 := hy.1
  have h4 := hy.2
  unfold f__law_less g__law_less prD
  simp_arith [dLt_int]
theorem nodup_pos {T : List Ms} (h : T ≠ []) : (T.map Ms.k).isEmpty = false := by
  cases T with
  | nil => exact absurd rfl h
  | cons _ _ => rfl
theorem isiA_dic (ks : List Key) (ds : List D) : dIsiA "dict" (.dic ks ds) = some (.bl true) := (rfl)
theorem wanted_ok {T : List Ms} (h : OkT T) (n : Int) : f_check_wanted [tD T] n = some (.ok .non, n) := by
  have e1 := nodup_pos h.ne
  have e2 := items_tD T
  have e3 : dIsiA "dict" (tD T) = some (.bl true) := rfl
  have e4 : dEq0 (tD T) = some (.bl false) := by
    show some (D.bl (T.map Ms.k).isEmpty) = _
    rw [e1]
  have hok := h.ok
  unfold f_check_wanted g_check_wanted
  generalize tD T = X at *
  simp_arith [e2, e3, e4]
  refine use_for (fun _ => True) ?_ ?_
  · obtain ⟨ρ', h1, _⟩ := for_fold (h := itD) (n := n) (xs := T) (fun (_ : Unit) ρ => ∃ o1 o2, ρ = [.val X, jS o1, jS o2]) (fun _ _ => ()) (g := gT (gsC (gV 1) (gsC (gV 2) gsN))) (b := (sIf (tOrD (tNotD (tTru (eCall (f_is_number) (eCons (eVar 1) eNil)))) (tOrD (tNotD (tB (eChain dLeA dLeA (eC (.int 0)) (eVar 1) (eC (.int 1000))))) (tNotD (tTru (eCall (f_is_fraction) (eCons (eVar 2) eNil)))))) (sRaise 1) sNx)) (fun m hm s ρ hs => by
      obtain ⟨o1, o2, rfl⟩ := hs
      have a := hok m hm
      have a1 := a.s0
      have a2 := a.s8
      refine ⟨_, [.val X, jS (some (.int m.s)), jS (some m.d)], rfl, ?_, _, _, rfl⟩
      have fr := fraction_ok a n
      show (_ : Option (Except Xc Out × Int)) = some (.ok (.nx [.val X, .val (.int m.s), .val m.d]), n)
      generalize m.d = Y at *
      simp_arith [number_int, fr]) (s := ()) (ρ := [.val X, .no, .no]) ⟨none, none, rfl⟩
    exact ⟨ρ', h1, trivial⟩
  · intro ρ _
    simp_arith []
/-! ### the greatest distance -/
theorem greatest_ok (b e : Int) {T : List Ms} (hT : OkM T) (n : Int) : f_greatest [lnD b e, tD T] n = some (.ok (prD (gr T b e)), n) := by
  have e2 := items_tD T
  have q : QOk (0, 1) := ⟨by decide, by decide⟩
  unfold f_greatest g_greatest
  generalize tD T = X at *
  simp_arith [e2]
  generalize hL : lnD b e = L at *
  refine use_for (fun ρ => ∃ o3 o4 o5, ρ = [.val L, .val X, .val (prD (gr T b e)), jS o3, jS o4, jS o5]) ?_ ?_
  · obtain ⟨ρ', h1, _, h2⟩ := for_fold (h := itD) (n := n) (xs := T) (fun (a : Pr) ρ => QOk a ∧ ∃ o3 o4 o5, ρ = [.val L, .val X, .val (prD a), jS o3, jS o4, jS o5]) (fun a m => stp a (dst b e m)) (g := gT (gsC (gV 3) (gsC (gV 4) gsN))) (b := (sSeq (sAsg (gV 5) (eCall (f_distance) (eCons (eVar 0) (eCons (eVar 3) (eCons (eVar 4) eNil)))))
  (sAsg (gV 2) (eIf (tTru (eCall (f_is_less) (eCons (eVar 2) (eCons (eVar 5) eNil)))) (eVar 5) (eVar 2))))) (fun m hm s ρ hs => by
      obtain ⟨qs, o3, o4, o5, rfl⟩ := hs
      have a := hT m hm
      have qd := @dst_ok b e m a
      refine ⟨_, [.val L, .val X, .val (prD (stp s (dst b e m))), jS (some (.int m.s)), jS (some m.d), jS (some (prD (dst b e m)))], rfl, ?_, stp_ok qs qd, _, _, _, rfl⟩
      have d1 := distance_ok b e n a
      have l1 := less_ok qs qd n
      rw [hL] at d1
      show (_ : Option (Except Xc Out × Int)) = some (.ok (.nx [.val L, .val X, .val (prD (stp s (dst b e m))), .val (.int m.s), .val m.d, .val (prD (dst b e m))]), n)
      unfold stp
      generalize m.d = Y at *
      by_cases z : s.1 * (dst b e m).2 < (dst b e m).1 * s.2
      · rw [decide_eq_true z] at l1
        rw [if_pos z]
        generalize prD s = S at *
        generalize prD (dst b e m) = Z at *
        simp_arith [d1, l1]
      · rw [decide_eq_false z] at l1
        rw [if_neg z]
        generalize prD s = S at *
        generalize prD (dst b e m) = Z at *
        simp_arith [d1, l1]) (s := (0, 1)) (ρ := [.val L, .val X, .val (prD (0, 1)), .no, .no, .no]) ⟨q, none, none, none, rfl⟩
    refine ⟨ρ', h1, ?_⟩
    unfold gr
    rw [List.foldl_map]
    exact h2
  · rintro ρ ⟨o3, o4, o5, rfl⟩
    simp_arith []
end K73
end

section
set_option Elab.async false
set_option linter.all false
set_option autoImplicit false
set_option maxRecDepth 100000
set_option maxHeartbeats 400000

namespace K73
open DL PySem L2 P_k73_whole_grades PyProof.Rows
theorem lfar_ok (b e : Int) {T : List Ms} (hT : OkM T) (n : Int) : f__law_far [lnD b e, tD T] n = some (.ok (prD (gr T b e)), n) := by
  have hit := items_tD T
  have q : QOk (0, 1) := ⟨by decide, by decide⟩
  unfold f__law_far g__law_far
  generalize tD T = X at *
  unfold lnD
  simp_arith [hit]
  refine use_for (fun ρ => ∃ o3 o4 o5, ρ = [.val (.tup [.int b, .int e]), .val X, .val (prD (gr T b e)), jS o3, jS o4, jS o5]) ?_ ?_
  · obtain ⟨ρ', h1, _, h2⟩ := for_fold (h := itD) (n := n) (xs := T) (fun (a : Pr) ρ => QOk a ∧ ∃ o3 o4 o5, ρ = [.val (.tup [.int b, .int e]), .val X, .val (prD a), jS o3, jS o4, jS o5]) (fun a m => stp a (dst b e m)) (g := gT (gsC (gV 3) (gsC (gV 4) gsN))) (b := (sSeq (sAsg (gV 5) (eTup (eCons (eB dAbs (eCons (e2 dSub (e2 dMul (e2 dAdd (e2 dIx (eVar 0) (eC (.int 0))) (e2 dMul (e2 dIx (eVar 0) (eC (.int 1))) (eVar 3))) (e2 dIx (eVar 4) (eC (.int 1)))) (e2 dIx (eVar 4) (eC (.int 0)))) eNil)) (eCons (e2 dIx (eVar 4) (eC (.int 1))) eNil))))
  (sAsg (gV 2) (eIf (tB (e2 dGt (e2 dMul (e2 dIx (eVar 5) (eC (.int 0))) (e2 dIx (eVar 2) (eC (.int 1)))) (e2 dMul (e2 dIx (eVar 2) (eC (.int 0))) (e2 dIx (eVar 5) (eC (.int 1)))))) (eVar 5) (eVar 2))))) (fun m hm s ρ hs => by
      obtain ⟨qs, o3, o4, o5, rfl⟩ := hs
      have a := hT m hm
      have qd := @dst_ok b e m a
      refine ⟨_, [.val (.tup [.int b, .int e]), .val X, .val (prD (stp s (dst b e m))), jS (some (.int m.s)), jS (some m.d), jS (some (prD (dst b e m)))], rfl, ?_, stp_ok qs qd, _, _, _, rfl⟩
      have a1 := a.s0
      have a2 := a.s8
      have a3 := a.q1
      have a4 := a.q60
      have a5 := qs.1
      have a6 := qs.2
      obtain ⟨x, y⟩ := s
      replace a5 : 1 ≤ y := a5
      replace a6 : y ≤ 60 := a6
      show (_ : Option (Except Xc Out × Int)) = some (.ok (.nx [.val (.tup [.int b, .int e]), .val X, .val (prD (stp (x, y) (dst b e m))), .val (.int m.s), .val m.d, .val (prD (dst b e m))]), n)
      unfold stp
      have k1 : (dst b e m).1 = (((b + e * m.s) * m.q - m.p).natAbs : Int) := rfl
      have k2 : (dst b e m).2 = m.q := rfl
      by_cases z : x * (dst b e m).2 < (dst b e m).1 * y
      · rw [if_pos z]
        rw [k1, k2] at z
        have z2 := gt_t z
        unfold prD dst Ms.d
        simp_arith [z2]
      · rw [if_neg z]
        rw [k1, k2] at z
        have z2 := gt_f (Int.not_lt.mp z)
        unfold prD dst Ms.d
        simp_arith [z2]) (s := (0, 1)) (ρ := [.val (.tup [.int b, .int e]), .val X, .val (prD (0, 1)), .no, .no, .no]) ⟨q, none, none, none, rfl⟩
    refine ⟨ρ', h1, ?_⟩
    unfold gr
    rw [List.foldl_map]
    exact h2
  · rintro ρ ⟨o3, o4, o5, rfl⟩
    simp_arith []
theorem rng199 : dRng2 [.int (-99), .int 100] = some ((List.range 199).map fun i : Nat => D.int ((i : Int) - 99)) := by kernel_rfl
theorem non_pr (x : Pr) : isNon (prD x) = false := rfl
theorem lleast_ok (e : Int) {T : List Ms} (hT : OkM T) (n : Int) : ∃ b : Int, -99 ≤ b ∧ b ≤ 99 ∧ f__law_least [tD T, .int e] n = some (.ok (prD (gr T b e)), n) := by
  have fl := fun b => lfar_ok b e hT n
  have ql := fun b => (gr_spec hT b e).1
  unfold f__law_least g__law_least
  generalize tD T = X at *
  simp_arith [rng199]
  obtain ⟨ρ', h1, h2⟩ := for_pre (h := fun i : Nat => D.int ((i : Int) - 99)) (g := gV 3) (n := n) (b := (sSeq (sAsg (gV 4) (eCall (f__law_far) (eCons (eTup (eCons (eVar 3) (eCons (eVar 1) eNil))) (eCons (eVar 0) eNil))))
  (sAsg (gV 2) (eIf (tOrD (tB (e1 (fun d => some (.bl (isNon d))) (eVar 2))) (tTru (eCall (f__law_less) (eCons (eVar 4) (eCons (eVar 2) eNil))))) (eVar 4) (eVar 2))))) (xs := List.range 199) (ys := []) (fun ys ρ => ∃ o3 o4, (ys = [] ∧ ρ = [.val X, .val (.int e), .val .non, jS o3, jS o4]) ∨ (ys ≠ [] ∧ ∃ b : Int, -99 ≤ b ∧ b ≤ 99 ∧ ρ = [.val X, .val (.int e), .val (prD (gr T b e)), jS o3, jS o4])) (fun ys x zs he ρ hi => by
    have hx : x < 199 := List.mem_range.mp (by rw [← he]; simp)
    obtain ⟨o3, o4, hi⟩ := hi
    have f1 := fl ((x : Int) - 99)
    unfold lnD at f1
    rcases hi with ⟨rfl, rfl⟩ | ⟨_, b, b1, b2, rfl⟩
    · refine ⟨_, [.val X, .val (.int e), .val (prD (gr T ((x : Int) - 99) e)), .val (.int ((x : Int) - 99)), .val (prD (gr T ((x : Int) - 99) e))], rfl, ?_, some (.int ((x : Int) - 99)), some (prD (gr T ((x : Int) - 99) e)), .inr ⟨by simp, (x : Int) - 99, by omega, by omega, rfl⟩⟩
      generalize prD (gr T ((x : Int) - 99) e) = Z at *
      simp_arith [f1]
    · have l1 := lless_ok (ql ((x : Int) - 99)) (ql b) n
      have nn := non_pr (gr T b e)
      by_cases z : (gr T ((x : Int) - 99) e).1 * (gr T b e).2 < (gr T b e).1 * (gr T ((x : Int) - 99) e).2
      · rw [decide_eq_true z] at l1
        refine ⟨_, [.val X, .val (.int e), .val (prD (gr T ((x : Int) - 99) e)), .val (.int ((x : Int) - 99)), .val (prD (gr T ((x : Int) - 99) e))], rfl, ?_, some (.int ((x : Int) - 99)), some (prD (gr T ((x : Int) - 99) e)), .inr ⟨by simp, (x : Int) - 99, by omega, by omega, rfl⟩⟩
        generalize prD (gr T ((x : Int) - 99) e) = Z at *
        generalize prD (gr T b e) = Y at *
        simp_arith [f1, l1, nn]
      · rw [decide_eq_false z] at l1
        refine ⟨_, [.val X, .val (.int e), .val (prD (gr T b e)), .val (.int ((x : Int) - 99)), .val (prD (gr T ((x : Int) - 99) e))], rfl, ?_, some (.int ((x : Int) - 99)), some (prD (gr T ((x : Int) - 99) e)), .inr ⟨by simp, b, b1, b2, rfl⟩⟩
        generalize prD (gr T ((x : Int) - 99) e) = Z at *
        generalize prD (gr T b e) = Y at *
        simp_arith [f1, l1, nn]) (zs := List.range 199) rfl (ρ := [.val X, .val (.int e), .val .non, .no, .no]) ⟨none, none, .inl ⟨rfl, rfl⟩⟩
  obtain ⟨o3, o4, h2⟩ := h2
  rcases h2 with ⟨z, _⟩ | ⟨_, b, b1, b2, rfl⟩
  · exact absurd z (by decide)
  · refine ⟨b, b1, b2, ?_⟩
    rw [h1]
    simp_arith []
end K73
end

section
set_option Elab.async false
set_option linter.all false
set_option autoImplicit false
set_option maxRecDepth 100000
set_option maxHeartbeats 400000

namespace K73
open DL PySem L2 P_k73_whole_grades PyProof.Rows
theorem look_tD {T : List Ms} (nd : (T.map Ms.k).Nodup) {m : Ms} (h : m ∈ T) : dIxA (tD T) (.int m.s) = some m.d := valD_map (f := Ms.k) (g := Ms.d) nd h
def leM (a b : Ms) : Bool := leZ a.s b.s
def sT (T : List Ms) : List Ms := srt leM T
theorem ins_map (x : Ms) : ∀ l : List Ms, (ins leM x l).map (·.s) = ins leZ x.s (l.map (·.s))
  | [] => rfl
  | y :: r => by
    show (if leM x y = true then x :: y :: r else y :: ins leM x r).map (·.s) = if leZ x.s y.s = true then x.s :: y.s :: r.map (·.s) else y.s :: ins leZ x.s (r.map (·.s))
    unfold leM
    split
    · rfl
    · rw [List.map_cons]
      have := ins_map x r
      unfold leM at this
      rw [this]
theorem srt_map : ∀ l : List Ms, (srt leM l).map (·.s) = srt leZ (l.map (·.s))
  | [] => rfl
  | x :: r => by
    show (ins leM x (srt leM r)).map (·.s) = ins leZ x.s (srt leZ (r.map (·.s)))
    rw [ins_map, srt_map r]
theorem intKs_tD : ∀ T : List Ms, intKs (T.map Ms.k) = some (T.map (·.s))
  | [] => rfl
  | m :: r => by
    show (intKs (r.map Ms.k)).map (m.s :: ·) = _
    rw [intKs_tD r]
    rfl
theorem mem_sT {T : List Ms} {m : Ms} : m ∈ sT T ↔ m ∈ T := (srt_perm leM T).mem_iff
theorem sT_sorted (T : List Ms) : (sT T).Pairwise fun a b => a.s ≤ b.s := by
  have := srt_sorted (le := leM) (fun x y => by unfold leM leZ; simp only [decide_eq_true_eq]; omega) (fun x y z h1 h2 => by unfold leM leZ at *; simp only [decide_eq_true_eq] at *; omega) T
  exact this.imp fun h => by unfold leM leZ at h; simpa using h
theorem sorted_tD {T : List Ms} (h : T.length ≤ 9) : dSortedD [tD T] = some (.lst ((sT T).map fun m => .int m.s)) := by
  show (match intKs (T.map Ms.k) with | some l => if l.length < 64 then some (D.lst ((srt leZ l).map .int)) else none | none => none) = _
  rw [intKs_tD]
  show (if (T.map (·.s)).length < 64 then some (D.lst ((srt leZ (T.map (·.s))).map .int)) else none) = _
  rw [if_pos (by rw [List.length_map]; omega), ← srt_map, List.map_map]
  rfl
/-! ### extremes -/
def exS (e : Int) (a : Option (Ms × Ms)) (m : Ms) : Option (Ms × Ms) := match a with
  | none => some (m, m)
  | some (h, l) => some (if (rs e h).1 * (rs e m).2 < (rs e m).1 * (rs e h).2 then m else h, if (rs e m).1 * (rs e l).2 < (rs e l).1 * (rs e m).2 then m else l)
theorem fold_ex (e : Int) : ∀ {xs : List Ms} {h l : Ms}, h.Ok → l.Ok → OkM xs → ∃ h' l', xs.foldl (exS e) (some (h, l)) = some (h', l') ∧ (h' = h ∨ h' ∈ xs) ∧ (l' = l ∨ l' ∈ xs) ∧ rest e h ≤ rest e h' ∧ rest e l' ≤ rest e l ∧ ∀ m ∈ xs, rest e m ≤ rest e h' ∧ rest e l' ≤ rest e m
  | [], h, l, _, _, _ => ⟨h, l, rfl, .inl rfl, .inl rfl, Int.le_refl _, Int.le_refl _, fun m hm => (List.not_mem_nil hm).elim⟩
  | x :: xs, h, l, hh, hl, hx => by
    have ox := hx x List.mem_cons_self
    have oxs : OkM xs := fun m hm => hx m (List.mem_cons_of_mem _ hm)
    have e1 := less_vl (rs_ok (e := e) hh) (rs_ok (e := e) ox)
    have e2 := less_vl (rs_ok (e := e) ox) (rs_ok (e := e) hl)
    rw [rs_vl hh, rs_vl ox] at e1
    rw [rs_vl hl, rs_vl ox] at e2
    rw [List.foldl_cons]
    have es : exS e (some (h, l)) x = some (if rest e h < rest e x then x else h, if rest e x < rest e l then x else l) := by
      unfold exS
      simp only [e1, e2]
    rw [es]
    have o1 : (if rest e h < rest e x then x else h).Ok := by split <;> assumption
    have o2 : (if rest e x < rest e l then x else l).Ok := by split <;> assumption
    obtain ⟨h', l', q1, q2, q3, q4, q5, q6⟩ := fold_ex e (xs := xs) o1 o2 oxs
    refine ⟨h', l', q1, ?_, ?_, ?_, ?_, ?_⟩
    · rcases q2 with q2 | q2
      · subst q2
        split
        · exact .inr List.mem_cons_self
        · exact .inl rfl
      · exact .inr (List.mem_cons_of_mem _ q2)
    · rcases q3 with q3 | q3
      · subst q3
        split
        · exact .inr List.mem_cons_self
        · exact .inl rfl
      · exact .inr (List.mem_cons_of_mem _ q3)
    · refine Int.le_trans ?_ q4
      split <;> omega
    · refine Int.le_trans q5 ?_
      split <;> omega
    · intro m hm
      rcases List.mem_cons.mp hm with rfl | hm
      · constructor
        · refine Int.le_trans ?_ q4
          split <;> omega
        · refine Int.le_trans q5 ?_
          split <;> omega
      · exact q6 m hm
def exs (T : List Ms) (e : Int) : Option (Ms × Ms) := (sT T).foldl (exS e) none
def xh (T : List Ms) (e : Int) : Ms := ((exs T e).getD (⟨0, 0, 1⟩, ⟨0, 0, 1⟩)).1
def xl (T : List Ms) (e : Int) : Ms := ((exs T e).getD (⟨0, 0, 1⟩, ⟨0, 0, 1⟩)).2
theorem exs_some {T : List Ms} (h : OkT T) (e : Int) : exs T e = some (xh T e, xl T e) ∧ Ext T e (xh T e) (xl T e) := by
  have hm : OkM (sT T) := fun m hm => h.ok m (mem_sT.mp hm)
  have key : ∃ h' l', exs T e = some (h', l') ∧ Ext T e h' l' := by
    unfold exs
    have mm := @mem_sT T
    cases hs : sT T with
    | nil =>
      exfalso
      obtain ⟨x, hx⟩ := List.exists_mem_of_ne_nil T h.ne
      have := mem_sT.mpr hx
      rw [hs] at this
      exact List.not_mem_nil this
    | cons x r =>
      rw [hs] at hm mm
      have ox := hm x List.mem_cons_self
      obtain ⟨h', l', q1, q2, q3, q4, q5, q6⟩ := fold_ex e (xs := r) ox ox fun m hm' => hm m (List.mem_cons_of_mem _ hm')
      refine ⟨h', l', q1, mm.mp ?_, mm.mp ?_, fun m hm' => ?_, fun m hm' => ?_⟩
      · rcases q2 with rfl | q2
        · exact List.mem_cons_self
        · exact List.mem_cons_of_mem _ q2
      · rcases q3 with rfl | q3
        · exact List.mem_cons_self
        · exact List.mem_cons_of_mem _ q3
      · rcases List.mem_cons.mp (mm.mpr hm') with rfl | hm'
        · exact q4
        · exact (q6 m hm').1
      · rcases List.mem_cons.mp (mm.mpr hm') with rfl | hm'
        · exact q5
        · exact (q6 m hm').2
  obtain ⟨h', l', q1, q2⟩ := key
  have a : xh T e = h' := by unfold xh; rw [q1]; rfl
  have b : xl T e = l' := by unfold xl; rw [q1]; rfl
  rw [a, b]
  exact ⟨q1, q2⟩
def exD (e : Int) (o : Option Ms) : D := match o with
  | none => .non
  | some m => .tup [prD (rs e m), .int m.s]
theorem extremes_ok {T : List Ms} (h : OkT T) (e n : Int) : f_extremes [tD T, .int e] n = some (.ok (.tup [.int (xh T e).s, .int (xl T e).s]), n) := by
  have hs := sorted_tD h.len
  have hl := @look_tD T h.nd
  have hok := h.ok
  have hx := (exs_some h e).1
  have ht := @mem_sT T
  unfold f_extremes g_extremes
  generalize tD T = X at *
  simp_arith [hs]
  unfold exs at hx
  refine use_for (fun ρ => ∃ o4 o5 o6, ρ = [.val X, .val (.int e), .val (exD e (some (xh T e))), .val (exD e (some (xl T e))), jS o4, jS o5, jS o6]) ?_ ?_
  · obtain ⟨ρ', h1, h2⟩ := for_fold (h := fun m : Ms => D.int m.s) (n := n) (xs := sT T) (fun (a : Option (Ms × Ms)) ρ => (∀ p, a = some p → p.1 ∈ T ∧ p.2 ∈ T) ∧ ∃ o4 o5 o6, ρ = [.val X, .val (.int e), .val (exD e (a.map (·.1))), .val (exD e (a.map (·.2))), jS o4, jS o5, jS o6]) (exS e) (g := gV 4) (b := (sSeq (sAsg (gV 5) (e2 dIxA (eVar 0) (eVar 4)))
  (sSeq (sAsg (gV 6) (eTup (eCons (e2 dSub (e2 dIx (eVar 5) (eC (.int 0))) (e2 dMul (e2 dMul (eVar 1) (eVar 4)) (e2 dIx (eVar 5) (eC (.int 1))))) (eCons (e2 dIx (eVar 5) (eC (.int 1))) eNil))))
  (sSeq (sIf (tOrD (tB (e1 (fun d => some (.bl (isNon d))) (eVar 2))) (tTru (eCall (f_is_less) (eCons (e2 dIx (eVar 2) (eC (.int 0))) (eCons (eVar 6) eNil))))) (sAsg (gV 2) (eTup (eCons (eVar 6) (eCons (eVar 4) eNil)))) sNx)
  (sIf (tOrD (tB (e1 (fun d => some (.bl (isNon d))) (eVar 3))) (tTru (eCall (f_is_less) (eCons (eVar 6) (eCons (e2 dIx (eVar 3) (eC (.int 0))) eNil))))) (sAsg (gV 3) (eTup (eCons (eVar 6) (eCons (eVar 4) eNil)))) sNx))))) (fun m hm a ρ hs => by
      obtain ⟨ha, o4, o5, o6, rfl⟩ := hs
      have hmT := ht.mp hm
      have q := hok m hmT
      have a1 := q.s0
      have a2 := q.s8
      have a3 := q.q1
      have a4 := q.q60
      have lk := hl hmT
      refine ⟨_, [.val X, .val (.int e), .val (exD e ((exS e a m).map (·.1))), .val (exD e ((exS e a m).map (·.2))), jS (some (.int m.s)), jS (some m.d), jS (some (prD (rs e m)))], rfl, ?_, ?_, _, _, _, rfl⟩
      · show (_ : Option (Except Xc Out × Int)) = some (.ok (.nx [.val X, .val (.int e), .val (exD e ((exS e a m).map (·.1))), .val (exD e ((exS e a m).map (·.2))), .val (.int m.s), .val m.d, .val (prD (rs e m))]), n)
        rcases a with _ | ⟨hh, ll⟩
        · show (_ : Option (Except Xc Out × Int)) = some (.ok (.nx [.val X, .val (.int e), .val (.tup [prD (rs e m), .int m.s]), .val (.tup [prD (rs e m), .int m.s]), .val (.int m.s), .val m.d, .val (prD (rs e m))]), n)
          show sSeq _ _ [.val X, .val (.int e), .val .non, .val .non, .val (.int m.s), jS o5, jS o6] n = _
          unfold Ms.d at lk ⊢
          unfold prD rs
          simp_arith [lk]
        · obtain ⟨z1, z2⟩ := ha _ rfl
          replace z1 := hok _ z1
          replace z2 := hok _ z2
          have l1 := less_ok (rs_ok (e := e) z1) (rs_ok (e := e) q) n
          have l2 := less_ok (rs_ok (e := e) q) (rs_ok (e := e) z2) n
          show (_ : Option (Except Xc Out × Int)) = some (.ok (.nx [.val X, .val (.int e), .val (.tup [prD (rs e (if (rs e hh).1 * (rs e m).2 < (rs e m).1 * (rs e hh).2 then m else hh)), .int (if (rs e hh).1 * (rs e m).2 < (rs e m).1 * (rs e hh).2 then m else hh).s]), .val (.tup [prD (rs e (if (rs e m).1 * (rs e ll).2 < (rs e ll).1 * (rs e m).2 then m else ll)), .int (if (rs e m).1 * (rs e ll).2 < (rs e ll).1 * (rs e m).2 then m else ll).s]), .val (.int m.s), .val m.d, .val (prD (rs e m))]), n)
          show sSeq _ _ [.val X, .val (.int e), .val (.tup [prD (rs e hh), .int hh.s]), .val (.tup [prD (rs e ll), .int ll.s]), .val (.int m.s), jS o5, jS o6] n = _
          have em : prD (rs e m) = .tup [.int (m.p - e * m.s * m.q), .int m.q] := rfl
          by_cases c1 : (rs e hh).1 * (rs e m).2 < (rs e m).1 * (rs e hh).2 <;> by_cases c2 : (rs e m).1 * (rs e ll).2 < (rs e ll).1 * (rs e m).2
          all_goals simp only [c1, c2, if_true, if_false, decide_true, decide_false] at l1 l2 ⊢
          all_goals rw [em] at l1 l2 ⊢
          all_goals generalize prD (rs e hh) = HH at *
          all_goals generalize prD (rs e ll) = LL at *
          all_goals unfold Ms.d at lk ⊢
          all_goals simp_arith [lk, l1, l2]
      · intro p hp
        rcases a with _ | ⟨hh, ll⟩
        · cases hp
          exact ⟨hmT, hmT⟩
        · obtain ⟨z1, z2⟩ := ha _ rfl
          cases hp
          constructor
          · show (if _ then m else hh) ∈ T
            split
            · exact hmT
            · exact z1
          · show (if _ then m else ll) ∈ T
            split
            · exact hmT
            · exact z2) (s := none) (ρ := [.val X, .val (.int e), .val .non, .val .non, .no, .no, .no]) ⟨fun p hp => (by cases hp), none, none, none, rfl⟩
    obtain ⟨_, o4, o5, o6, h3⟩ := h2
    refine ⟨ρ', h1, o4, o5, o6, ?_⟩
    rw [h3, hx]
    rfl
  · rintro ρ ⟨o4, o5, o6, rfl⟩
    unfold exD
    simp_arith []
theorem rest_ok {T : List Ms} (h : OkT T) (e n : Int) {m : Ms} (hm : m ∈ T) : f_rest_of [tD T, .int e, .int m.s] n = some (.ok (prD (rs e m)), n) := by
  have lk := look_tD h.nd hm
  have q := h.ok m hm
  have a1 := q.s0
  have a2 := q.s8
  have a3 := q.q1
  have a4 := q.q60
  unfold f_rest_of g_rest_of prD rs
  generalize tD T = X at *
  unfold Ms.d at lk
  simp_arith [lk]
end K73
end

section
set_option Elab.async false
set_option linter.all false
set_option autoImplicit false
set_option maxRecDepth 100000
set_option maxHeartbeats 400000

namespace K73
open DL PySem L2 P_k73_whole_grades PyProof.Rows
theorem mid_eq {e : Int} {h l : Ms} (oh : h.Ok) (ol : l.Ok) : ((rs e h).1 * (rs e l).2 + (rs e l).1 * (rs e h).2) / (2 * (rs e h).2 * (rs e l).2) = nbm (rest e h) (rest e l) := by
  have q1 := rs_ok (e := e) oh
  have q2 := rs_ok (e := e) ol
  have c1 := cq_ok q1.1 q1.2
  have c2 := cq_ok q2.1 q2.2
  have k0 : 0 < cq (rs e h).2 * cq (rs e l).2 := Int.mul_pos c1.2 c2.2
  rw [← Int.mul_ediv_mul_of_pos_left _ _ k0]
  have e1 : ((rs e h).1 * (rs e l).2 + (rs e l).1 * (rs e h).2) * (cq (rs e h).2 * cq (rs e l).2) = (rest e h + rest e l) * NN := by
    rw [← rs_vl oh, ← rs_vl ol, Int.add_mul, Int.add_mul]
    unfold vl
    congr 1
    · rw [← c2.1]; ac_rfl
    · rw [← c1.1]; ac_rfl
  have e2 : 2 * (rs e h).2 * (rs e l).2 * (cq (rs e h).2 * cq (rs e l).2) = 2 * NN * NN := by
    have : 2 * (rs e h).2 * (rs e l).2 * (cq (rs e h).2 * cq (rs e l).2) = 2 * (cq (rs e h).2 * (rs e h).2) * (cq (rs e l).2 * (rs e l).2) := by ac_rfl
    rw [this, c1.1, c2.1]
  rw [e1, e2, Int.mul_ediv_mul_of_pos_left _ _ nn_pos]
  rfl
def nbT (T : List Ms) (e : Int) : Int := nb (rest e (xh T e)) (rest e (xl T e))
def gT9 (T : List Ms) (e b : Int) : Int := gv (rest e (xh T e)) (rest e (xl T e)) b
theorem gr_gT {T : List Ms} (h : OkT T) (b e : Int) : vl (gr T b e) = gT9 T e b := gr_gv h.ok (exs_some h e).2
theorem ix_l0 (a b : D) : dIx (.lst [a, b]) (.int 0) = some a := (rfl)
theorem ix_l1 (a b : D) : dIx (.lst [a, b]) (.int 1) = some b := (rfl)
theorem nearest_ok {T : List Ms} (h : OkT T) (e n : Int) : f_nearest_base [tD T, .int e] n = some (.ok (lnD (nbT T e) e), n) := by
  obtain ⟨_, x⟩ := exs_some h e
  have ex := extremes_ok h e n
  have r1 := rest_ok h e n x.hm
  have r2 := rest_ok h e n x.lm
  have oh := h.ok _ x.hm
  have ol := h.ok _ x.lm
  have md := mid_eq (e := e) oh ol
  have q1 := rs_ok (e := e) oh
  have q2 := rs_ok (e := e) ol
  have gk := fun b => greatest_ok b e h.ok n
  have gq := fun b => (gr_spec h.ok b e).1
  have ge := fun b => gr_gT h b e
  have a1 := q1.1
  have a2 := q1.2
  have a3 := q2.1
  have a4 := q2.2
  unfold nbT nb
  have gg : ∀ b, gv (rest e (xh T e)) (rest e (xl T e)) b = vl (gr T b e) := fun b => (ge b).symm
  rw [gg, gg]
  have hX : ∀ b, f_greatest [.tup [.int b, .int e], tD T] n = some (.ok (prD (gr T b e)), n) := gk
  have b1 : 0 < 2 * (rs e (xh T e)).2 * (rs e (xl T e)).2 := Int.mul_pos (by omega) (by omega)
  have b2 : 2 * (rs e (xh T e)).2 * (rs e (xl T e)).2 ≤ 120 * 60 := Int.mul_le_mul (by omega) a4 (by omega) (by omega)
  have b3 : 2 * (rs e (xh T e)).2 * (rs e (xl T e)).2 < 1073741824 := by omega
  have cm : clp (nbm (rest e (xh T e)) (rest e (xl T e))) = max (-99) (min 99 (nbm (rest e (xh T e)) (rest e (xl T e)))) := rfl
  have cm1 : clp (nbm (rest e (xh T e)) (rest e (xl T e)) + 1) = max (-99) (min 99 (nbm (rest e (xh T e)) (rest e (xl T e)) + 1)) := rfl
  generalize hm : nbm (rest e (xh T e)) (rest e (xl T e)) = m at *
  have l1 := less_ok (gq (clp (m + 1))) (gq (clp m)) n
  have lv := less_vl (gq (clp (m + 1))) (gq (clp m))
  have g1 := hX (clp (m + 1))
  have g0 := hX (clp m)
  generalize (xh T e).s = hs at *
  generalize (xl T e).s = ls at *
  unfold lnD
  generalize hY : tD T = X at *
  unfold prD at r1 r2
  have e0 : [D.int m, D.int (m + 1)] = [m, m + 1].map D.int := rfl
  unfold f_nearest_base g_nearest_base
  simp_arith [ex, r1, r2, dDiv_int b1 b3, md]
  rw [e0, comp_of (fun b : Int => D.tup [.int (max (-99) (min 99 b)), .int e]) fun b hb => by simp_arith []]
  simp_arith []
  rw [← cm, ← cm1]
  by_cases c : vl (gr T (clp (m + 1)) e) < vl (gr T (clp m) e)
  · rw [if_pos c]
    rw [decide_eq_true (lv.mpr c)] at l1
    generalize prD (gr T (clp (m + 1)) e) = G1 at *
    generalize prD (gr T (clp m) e) = G0 at *
    simp_arith [ix_l0, ix_l1, g1, g0, l1]
  · rw [if_neg c]
    rw [decide_eq_false fun z => c (lv.mp z)] at l1
    generalize prD (gr T (clp (m + 1)) e) = G1 at *
    generalize prD (gr T (clp m) e) = G0 at *
    simp_arith [ix_l0, ix_l1, g1, g0, l1]
end K73
end

section
set_option Elab.async false
set_option linter.all false
set_option autoImplicit false
set_option maxRecDepth 100000
set_option maxHeartbeats 400000

namespace K73
open DL PySem L2 P_k73_whole_grades PyProof.Rows
theorem chk_for {α : Type} {h : α → D} {g : GX} {b : SX} {n : Int} (p : α → Bool) (I : DL.Env → Prop) : ∀ {xs : List α}, (∀ x ∈ xs, ∀ ρ, I ρ → ∃ ρ1, g (h x) ρ = some ρ1 ∧ (p x = true → ∃ ρ2, b ρ1 n = some (.ok (.nx ρ2), n) ∧ I ρ2) ∧ (p x = false → b ρ1 n = some (.ok (.ret (.bl false)), n))) → ∀ {ρ}, I ρ → (xs.all p = true → ∃ ρ', forD g b (xs.map h) ρ n = some (.ok (.nx ρ'), n) ∧ I ρ') ∧ (xs.all p = false → forD g b (xs.map h) ρ n = some (.ok (.ret (.bl false)), n))
  | [], _, ρ, i => ⟨fun _ => ⟨ρ, rfl, i⟩, fun e => by simp at e⟩
  | x :: xs, k, ρ, i => by
    obtain ⟨ρ1, h1, h2, h3⟩ := k x List.mem_cons_self ρ i
    rw [List.map_cons, forD_cons]
    cases hp : p x with
    | true =>
      obtain ⟨ρ2, h4, h5⟩ := h2 hp
      obtain ⟨k1, k2⟩ := chk_for p I (xs := xs) (fun y hy => k y (List.mem_cons_of_mem _ hy)) h5
      rw [List.all_cons, hp, Bool.true_and]
      refine ⟨fun e => ?_, fun e => ?_⟩
      · obtain ⟨ρ', h6, h7⟩ := k1 e
        exact ⟨ρ', by simp [h1, h4, h6], h7⟩
      · simp [h1, h4, k2 e]
    | false =>
      rw [List.all_cons, hp, Bool.false_and]
      exact ⟨(fun e => by cases e), (fun _ => by simp [h1, h3 hp])⟩
theorem line_ok {b e : Int} (h1 : -99 ≤ b ∧ b ≤ 99) (h2 : -9 ≤ e ∧ e ≤ 9) (n : Int) : f_is_line [lnD b e] n = some (.ok (.bl true), n) := by
  unfold f_is_line g_is_line lnD
  simp_arith [dLen_tup, number_int]
theorem in_tD {T : List Ms} (nd : (T.map Ms.k).Nodup) {m : Ms} (h : m ∈ T) : dIn (.int m.s) (tD T) = some (.bl true) := by
  have : valD (T.map Ms.k) (T.map Ms.d) (.inl m.s) = some m.d := valD_map (f := Ms.k) (g := Ms.d) nd h
  show (match (some (valD (T.map Ms.k) (T.map Ms.d) (.inl m.s)).isSome : Option Bool) with | some t => some (D.bl t) | none => none) = _
  rw [this]
  rfl
theorem sizes_ok {T : List Ms} (nd : (T.map Ms.k).Nodup) {h l : Ms} (hh : h ∈ T) (hl : l ∈ T) (n : Int) : f_are_sizes [.tup [.int h.s, .int l.s], tD T] n = some (.ok (.bl true), n) := by
  have i1 := in_tD nd hh
  have i2 := in_tD nd hl
  have e0 : [D.int h.s, D.int l.s] = [h.s, l.s].map D.int := rfl
  have e1 : dAll [.lst [.bl true, .bl true]] = some (.bl true) := by kernel_rfl
  unfold f_are_sizes g_are_sizes
  generalize tD T = X at *
  simp_arith [dLen_tup]
  rw [e0, comp_of (fun _ => .bl true) fun x hx => by
    have i3 : dIn (.int x) X = some (.bl true) := by
      simp only [List.mem_cons, List.not_mem_nil, or_false] at hx
      rcases hx with rfl | rfl
      · exact i1
      · exact i2
    simp_arith [number_int, i3]]
  simp_arith [e1]
/-! ### two sizes as a table -/
def sm (h l : Ms) : List Ms := if h = l then [h] else [h, l]
theorem sm_put {h l : Ms} (e : h.k = l.k → h = l) : putAll [] [] ([h, l].map fun m => (m.k, m.d)) = ((sm h l).map Ms.k, (sm h l).map Ms.d) := by
  unfold sm
  by_cases c : h = l
  · subst c
    rw [if_pos rfl]
    simp [DL.putAll, dkKs, dkDs]
  · rw [if_neg c]
    have : h.k ≠ l.k := fun z => c (e z)
    rw [putAll_nd (by simpa using this)]
    rfl
theorem k_inj {T : List Ms} (nd : (T.map Ms.k).Nodup) {h l : Ms} (hh : h ∈ T) (hl : l ∈ T) (e : h.k = l.k) : h = l := by
  have a := valD_map (f := Ms.k) (g := Ms.d) nd hh
  have b := valD_map (f := Ms.k) (g := Ms.d) nd hl
  rw [e, b] at a
  obtain ⟨s, p, q⟩ := h
  obtain ⟨s', p', q'⟩ := l
  cases e
  cases a
  rfl
theorem sm_mem {h l m : Ms} : m ∈ sm h l ↔ m = h ∨ m = l := by
  unfold sm
  split
  · rename_i c
    subst c
    simp
  · simp
theorem sm_okT {T : List Ms} (hT : OkT T) {h l : Ms} (hh : h ∈ T) (hl : l ∈ T) : OkT (sm h l) := by
  have inj := k_inj hT.nd hh hl
  refine ⟨?_, ?_, ?_, fun m hm => ?_⟩
  · unfold sm
    split <;> simp
  · unfold sm
    split
    · simp
    · rename_i c
      have : h.k ≠ l.k := fun z => c (inj z)
      simpa using this
  · unfold sm
    split <;> simp
  · rcases sm_mem.mp hm with rfl | rfl
    · exact hT.ok _ hh
    · exact hT.ok _ hl
theorem sm_ext {T : List Ms} {e : Int} {h l : Ms} (x : Ext T e h l) : Ext (sm h l) e h l := by
  refine ⟨sm_mem.mpr (.inl rfl), sm_mem.mpr (.inr rfl), fun m hm => ?_, fun m hm => ?_⟩
  · rcases sm_mem.mp hm with rfl | rfl
    · exact Int.le_refl _
    · exact x.hi _ x.lm
  · rcases sm_mem.mp hm with rfl | rfl
    · exact x.lo _ x.hm
    · exact Int.le_refl _
theorem ext_uniq {T : List Ms} {e : Int} {h l h' l' : Ms} (x : Ext T e h l) (y : Ext T e h' l') : rest e h = rest e h' ∧ rest e l = rest e l' := by
  have a := x.hi _ y.hm
  have b := y.hi _ x.hm
  have c := x.lo _ y.lm
  have d := y.lo _ x.lm
  omega
/-- the least greatest distance of the lines with a rise -/
def mG (T : List Ms) (e : Int) : Int := gT9 T e (nbT T e)
def Sm (T : List Ms) (e : Int) : List Ms := sm (xh T e) (xl T e)
theorem Sm_ok {T : List Ms} (h : OkT T) (e : Int) : OkT (Sm T e) := sm_okT h (exs_some h e).2.hm (exs_some h e).2.lm
theorem Sm_gT {T : List Ms} (h : OkT T) (e b : Int) : gT9 (Sm T e) e b = gT9 T e b := by
  obtain ⟨a, c⟩ := ext_uniq (exs_some (Sm_ok h e) e).2 (sm_ext (exs_some h e).2)
  unfold gT9
  rw [a, c]
theorem Sm_nb {T : List Ms} (h : OkT T) (e : Int) : nbT (Sm T e) e = nbT T e := by
  obtain ⟨a, c⟩ := ext_uniq (exs_some (Sm_ok h e) e).2 (sm_ext (exs_some h e).2)
  unfold nbT
  rw [a, c]
theorem mG_le {T : List Ms} (e b : Int) (h1 : -99 ≤ b) (h2 : b ≤ 99) : mG T e ≤ gT9 T e b := nb_best _ _ _ h1 h2
/-! ### a Grade -/
def R19 : List Int := (List.range 19).map fun i : Nat => (i : Int) - 9
theorem mem_R19 {i : Int} : i ∈ R19 ↔ -9 ≤ i ∧ i ≤ 9 := by
  unfold R19
  rw [List.mem_map]
  constructor
  · rintro ⟨k, hk, rfl⟩
    have := List.mem_range.mp hk
    omega
  · rintro ⟨h1, h2⟩
    exact ⟨(i + 9).toNat, List.mem_range.mpr (by omega), by omega⟩
def agV (T : List Ms) (i : Int) : D := .tup [.int (xh T i).s, .int (xl T i).s]
def AG (T : List Ms) : D := .dic (R19.map Sum.inl) (R19.map (agV T))
theorem R19_nd : (R19.map (Sum.inl : Int → Key)).Nodup := by decide +kernel
theorem ag_ix (T : List Ms) {i : Int} (h : i ∈ R19) : dIxA (AG T) (.int i) = some (agV T i) := valD_map (f := (Sum.inl : Int → Key)) (g := agV T) R19_nd h
theorem ag_ni (T : List Ms) {i : Int} (h : i ∈ R19) : dNi (.int i) (AG T) = some (.bl false) := by
  have : valD (R19.map Sum.inl) (R19.map (agV T)) (.inl i : Key) = some (agV T i) := valD_map (f := (Sum.inl : Int → Key)) (g := agV T) R19_nd h
  show (match (some (valD (R19.map Sum.inl) (R19.map (agV T)) (.inl i : Key)).isSome : Option Bool) with | some t => some (D.bl (!t)) | none => none) = _
  rw [this]
  rfl
def gD (b e : Int) (A : D) : D := .obj 2 ["line", "against"] [lnD b e, A]
theorem gD_line (b e : Int) (A : D) : dFld 2 "line" (gD b e A) = some (lnD b e) := by kernel_rfl
theorem gD_against (b e : Int) (A : D) : dFld 2 "against" (gD b e A) = some A := by kernel_rfl
theorem init_ok (b e : Int) (ks : List Key) (ds : List D) (n : Int) : f_Grade___init__ [lnD b e, .dic ks ds] n = some (.ok (gD b e (.dic ks ds)), n) := by kernel_rfl
theorem rgo19 : dRgo (.rng (-9) 10) = some (R19.map D.int) := by kernel_rfl
theorem len19 : dLenA [.rng (-9) 10] = some (.int 19) := by kernel_rfl
theorem lenAG (T : List Ms) : dLenA [AG T] = some (.int 19) := by kernel_rfl
theorem shows_ok {T : List Ms} (h : OkT T) {b e : Int} (h1 : -99 ≤ b ∧ b ≤ 99) (h2 : -9 ≤ e ∧ e ≤ 9) (n : Int) : f_Grade_shows [gD b e (AG T), tD T] n = some (.ok (.bl (R19.all fun i => !decide (mG T i < vl (gr T b e)))), n) := by
  have w := wanted_ok h n
  have fl := gD_line b e (AG T)
  have fa := gD_against b e (AG T)
  have il := line_ok h1 h2 n
  have ai := fun i => @ag_ix T i
  have an := fun i => @ag_ni T i
  have la := lenAG T
  have gk := greatest_ok b e h.ok n
  have gq := (gr_spec h.ok b e).1
  have lk := @look_tD T h.nd
  have sz := fun i => sizes_ok h.nd (exs_some h i).2.hm (exs_some h i).2.lm n
  unfold f_Grade_shows g_Grade_shows
  generalize gD b e (AG T) = O at *
  generalize AG T = A at *
  generalize lnD b e = L at *
  generalize hX : tD T = X at *
  have nine : (9 : Int) + 1 = 10 := rfl
  simp_arith [w, fl, fa, il, la, len19, gk, rgo19, nine]
  obtain ⟨k1, k2⟩ := chk_for (h := D.int) (g := gV 4) (n := n) (b := (sSeq (sIf (tOrD (tB (e2 dNi (eVar 4) (e1 (dFld 2 "against") (eVar 0)))) (tNotD (tTru (eCall (f_are_sizes) (eCons (e2 dIxA (e1 (dFld 2 "against") (eVar 0)) (eVar 4)) (eCons (eVar 1) eNil)))))) (sRet (eC (.bl false))) sNx)
  (sSeq (sAsg (gV 5) (eDComp [6] (gV 6) (iOf (e2 dIxA (e1 (dFld 2 "against") (eVar 0)) (eVar 4))) tYesD (eVar 6) (e2 dIxA (eVar 1) (eVar 6))))
  (sIf (tTru (eCall (f_is_less) (eCons (eCall (f_greatest) (eCons (eCall (f_nearest_base) (eCons (eVar 5) (eCons (eVar 4) eNil))) (eCons (eVar 5) eNil))) (eCons (eVar 3) eNil)))) (sRet (eC (.bl false))) sNx)))) (fun i : Int => !decide (mG T i < vl (gr T b e))) (fun ρ => ∃ o4 o5, ρ = [.val O, .val X, .val (.rng (-9) 10), .val (prD (gr T b e)), jS o4, jS o5, .no]) (xs := R19) (fun i hi ρ hρ => by
    obtain ⟨o4, o5, rfl⟩ := hρ
    have xx := (exs_some h i).2
    have so := Sm_ok h i
    have nk := nearest_ok so i n
    rw [Sm_nb h i] at nk
    have gk2 := greatest_ok (nbT T i) i so.ok n
    have gq2 := (gr_spec so.ok (nbT T i) i).1
    have ge : vl (gr (Sm T i) (nbT T i) i) = mG T i := by rw [gr_gT so, Sm_gT h]; rfl
    have l1 := less_ok gq2 gq n
    have lv := less_vl gq2 gq
    rw [ge] at lv
    have ix := ai i hi
    have ni := an i hi
    have sz1 := sz i
    have lh := lk xx.hm
    have ll := lk xx.lm
    have pu := sm_put (k_inj h.nd xx.hm xx.lm)
    have e0 : [D.int (xh T i).s, D.int (xl T i).s] = [xh T i, xl T i].map fun m : Ms => D.int m.s := rfl
    have eS : D.dic ((sm (xh T i) (xl T i)).map Ms.k) ((sm (xh T i) (xl T i)).map Ms.d) = tD (Sm T i) := rfl
    unfold agV at ix
    generalize prD (gr T b e) = G1 at *
    generalize prD (gr (Sm T i) (nbT T i) i) = G2 at *
    have hn : gV 4 (.int i) [.val O, .val X, .val (.rng (-9) 10), .val G1, jS o4, jS o5, .no] = some [.val O, .val X, .val (.rng (-9) 10), .val G1, .val (.int i), jS o5, .no] := rfl
    have run : ∀ (c : Bool), f_is_less [G2, G1] n = some (.ok (.bl c), n) → (sSeq (sIf (tOrD (tB (e2 dNi (eVar 4) (e1 (dFld 2 "against") (eVar 0)))) (tNotD (tTru (eCall (f_are_sizes) (eCons (e2 dIxA (e1 (dFld 2 "against") (eVar 0)) (eVar 4)) (eCons (eVar 1) eNil)))))) (sRet (eC (.bl false))) sNx)
  (sSeq (sAsg (gV 5) (eDComp [6] (gV 6) (iOf (e2 dIxA (e1 (dFld 2 "against") (eVar 0)) (eVar 4))) tYesD (eVar 6) (e2 dIxA (eVar 1) (eVar 6))))
  (sIf (tTru (eCall (f_is_less) (eCons (eCall (f_greatest) (eCons (eCall (f_nearest_base) (eCons (eVar 5) (eCons (eVar 4) eNil))) (eCons (eVar 5) eNil))) (eCons (eVar 3) eNil)))) (sRet (eC (.bl false))) sNx))) [.val O, .val X, .val (.rng (-9) 10), .val G1, .val (.int i), jS o5, .no] n = some (.ok (selB c (.ret (.bl false)) (.nx [.val O, .val X, .val (.rng (-9) 10), .val G1, .val (.int i), .val (tD (Sm T i)), .no])), n) := by
      intro c hc
      simp_arith [fa, ni, ix, sz1]
      rw [e0, dcomp_of (fun m : Ms => m.k) (fun m : Ms => m.d) (by simp) (fun m hm => by
        have lm : dIxA X (.int m.s) = some m.d := by
          simp only [List.mem_cons, List.not_mem_nil, or_false] at hm
          rcases hm with rfl | rfl
          · exact lh
          · exact ll
        have km : keyD (.int m.s) = some m.k := rfl
        generalize m.d = Y at *
        generalize m.k = Z at *
        simp_arith [lm, ↓km])]
      rw [pu]
      simp_arith [eS]
      generalize tD (Sm T i) = S at *
      generalize lnD (nbT T i) i = L2 at *
      simp_arith [nk, gk2, hc]
      cases c
      · rfl
      · rfl
    refine ⟨_, hn, fun hp => ?_, fun hp => ?_⟩
    · have c0 : ¬ mG T i < vl (gr T b e) := by simpa using hp
      rw [decide_eq_false fun z => c0 (lv.mp z)] at l1
      exact ⟨_, run false l1, some (.int i), some (tD (Sm T i)), rfl⟩
    · have c0 : mG T i < vl (gr T b e) := by simpa using hp
      rw [decide_eq_true (lv.mpr c0)] at l1
      exact run true l1) (ρ := [.val O, .val X, .val (.rng (-9) 10), .val (prD (gr T b e)), .no, .no, .no]) ⟨none, none, rfl⟩
  cases hc : R19.all fun i => !decide (mG T i < vl (gr T b e)) with
  | true =>
    obtain ⟨ρ', k3, o4, o5, rfl⟩ := k1 hc
    rw [k3]
    simp_arith []
  | false =>
    rw [k2 hc]
    simp_arith []
end K73
end

section
set_option Elab.async false
set_option linter.all false
set_option autoImplicit false
set_option maxRecDepth 100000
set_option maxHeartbeats 400000

namespace K73
open DL PySem L2 P_k73_whole_grades PyProof.Rows
theorem rng19' : dRng2 [.int (-9), .int (9 + 1)] = some (R19.map D.int) := by kernel_rfl
theorem lnD_1 (b e : Int) : dIx (lnD b e) (.int 1) = some (.int e) := (rfl)
def lnI (T : List Ms) (i : Int) : D := lnD (nbT T i) i
theorem lnI_0 (T : List Ms) : dIx (.lst (R19.map (lnI T))) (.int 0) = some (lnI T (-9)) := by kernel_rfl
theorem grade_ok {T : List Ms} (h : OkT T) (n : Int) : ∃ e0 : Int, (-9 ≤ e0 ∧ e0 ≤ 9) ∧ (∀ i, -9 ≤ i → i ≤ 9 → mG T e0 ≤ mG T i) ∧ f_grade [tD T] n = some (.ok (gD (nbT T e0) e0 (AG T)), n) := by
  have w := wanted_ok h n
  have nk := fun e => nearest_ok h e n
  have gk := fun e => greatest_ok (nbT T e) e h.ok n
  have gq := fun e => (gr_spec h.ok (nbT T e) e).1
  have ge : ∀ e, vl (gr T (nbT T e) e) = mG T e := fun e => gr_gT h (nbT T e) e
  have ex := fun e => extremes_ok h e n
  have l0 := lnI_0 T
  have io := fun b e => init_ok b e (R19.map Sum.inl) (R19.map (agV T)) n
  have eAG : D.dic (R19.map Sum.inl) (R19.map (agV T)) = AG T := rfl
  rw [eAG] at io
  have eit : dItems (.lst (R19.map (lnI T))) = some (R19.map (lnI T)) := rfl
  have hlen : R19.length = 19 := rfl
  unfold f_grade g_grade
  generalize tD T = X at *
  simp_arith [w, rng19']
  rw [comp_of (lnI T) fun i _ => by
    have nk1 := nk i
    unfold lnI
    generalize lnD (nbT T i) i = L at *
    simp_arith [nk1]]
  have eml : mkLst (R19.map (lnI T)) = some (.lst (R19.map (lnI T))) := by kernel_rfl
  generalize hLS : D.lst (R19.map (lnI T)) = LS at *
  simp_arith [↓eml, l0, eit]
  obtain ⟨ρ', k1, o3, e0, k2, k3, k4⟩ := for_pre (h := lnI T) (g := gV 3) (n := n) (b := (sIf (tTru (eCall (f_is_less) (eCons (eCall (f_greatest) (eCons (eVar 3) (eCons (eVar 0) eNil))) (eCons (eCall (f_greatest) (eCons (eVar 2) (eCons (eVar 0) eNil))) eNil)))) (sAsg (gV 2) (eVar 3)) sNx)) (xs := R19) (ys := []) (fun ys ρ => ∃ o3 e0, (-9 ≤ e0 ∧ e0 ≤ 9) ∧ (∀ i ∈ ys, mG T e0 ≤ mG T i) ∧ ρ = [.val X, .val LS, .val (lnI T e0), jS o3, .no, .no]) (fun ys x zs he ρ hi => by
    obtain ⟨o3, e0, r0, i0, rfl⟩ := hi
    have hx : -9 ≤ x ∧ x ≤ 9 := mem_R19.mp (by rw [← he]; simp)
    have l1 := less_ok (gq x) (gq e0) n
    have lv := less_vl (gq x) (gq e0)
    rw [ge, ge] at lv
    have g1 := gk x
    have g0 := gk e0
    by_cases c : mG T x < mG T e0
    · rw [decide_eq_true (lv.mpr c)] at l1
      refine ⟨_, [.val X, .val LS, .val (lnI T x), jS (some (lnI T x)), .no, .no], rfl, ?_, some (lnI T x), x, hx, fun i hi => ?_, rfl⟩
      · show (_ : Option (Except Xc Out × Int)) = some (.ok (.nx [.val X, .val LS, .val (lnI T x), .val (lnI T x), .no, .no]), n)
        unfold lnI
        generalize lnD (nbT T x) x = L1 at *
        generalize lnD (nbT T e0) e0 = L0 at *
        generalize prD (gr T (nbT T x) x) = G1 at *
        generalize prD (gr T (nbT T e0) e0) = G0 at *
        simp_arith [g1, g0, l1]
      · rcases List.mem_append.mp hi with hi | hi
        · have := i0 i hi
          omega
        · rw [List.mem_singleton.mp hi]
          exact Int.le_refl _
    · rw [decide_eq_false fun z => c (lv.mp z)] at l1
      refine ⟨_, [.val X, .val LS, .val (lnI T e0), jS (some (lnI T x)), .no, .no], rfl, ?_, some (lnI T x), e0, r0, fun i hi => ?_, rfl⟩
      · show (_ : Option (Except Xc Out × Int)) = some (.ok (.nx [.val X, .val LS, .val (lnI T e0), .val (lnI T x), .no, .no]), n)
        unfold lnI
        generalize lnD (nbT T x) x = L1 at *
        generalize lnD (nbT T e0) e0 = L0 at *
        generalize prD (gr T (nbT T x) x) = G1 at *
        generalize prD (gr T (nbT T e0) e0) = G0 at *
        simp_arith [g1, g0, l1]
      · rcases List.mem_append.mp hi with hi | hi
        · exact i0 i hi
        · rw [List.mem_singleton.mp hi]
          omega) (zs := R19) rfl (ρ := [.val X, .val LS, .val (lnI T (-9)), .no, .no, .no]) ⟨none, -9, by omega, fun i hi => (List.not_mem_nil hi).elim, rfl⟩
  subst k4
  rw [k1]
  refine ⟨e0, k2, fun i h1 h2 => k3 i (mem_R19.mpr ⟨h1, h2⟩), ?_⟩
  have put : DL.putAll [] [] (R19.map fun i => ((Sum.inl i : Key), agV T i)) = (R19.map Sum.inl, R19.map (agV T)) := by
    rw [putAll_nd (by rw [List.nil_append, List.map_map]; exact R19_nd), List.nil_append, List.nil_append, List.map_map, List.map_map]
    rfl
  simp_arith [eit]
  rw [dcomp_of (fun i : Int => (Sum.inl i : Key)) (agV T) (by rw [hlen]; decide) (fun i _ => by
    have ex1 := ex i
    have lx := lnD_1 (nbT T i) i
    unfold lnI agV
    generalize lnD (nbT T i) i = L1 at *
    simp_arith [lx, ex1]), put]
  simp_arith [eAG]
  have i1 := io (nbT T e0) e0
  unfold lnI
  have mk : makeK 2 (gD (nbT T e0) e0 (AG T)) = M.pure (gD (nbT T e0) e0 (AG T)) := makeK_obj _ _ _
  generalize lnD (nbT T e0) e0 = L1 at *
  generalize gD (nbT T e0) e0 (AG T) = G1 at *
  generalize AG T = A at *
  simp_arith [i1, mk]
end K73
end

section
set_option Elab.async false
set_option linter.all false
set_option autoImplicit false
set_option maxRecDepth 100000
set_option maxHeartbeats 400000

namespace K73
open DL PySem L2 P_k73_whole_grades PyProof.Rows
def fbT : TX := (tB (e2 dNe (eVar 8) (eC (.int 0))))
def fbB : SX := (sPar [7, 8] (eCons (eVar 8) (eCons (e2 dMod (eVar 7) (eVar 8)) eNil)))
theorem gcd_while (L X F : D) (o3 o4 : Option D) (A Q : D) (n : Int) : ∀ (k f x y : Nat), y < k → k ≤ f → whileD fbT fbB f [.val L, .val X, .val F, jS o3, jS o4, .val A, .val Q, .val (.int x), .val (.int y)] n = some (.ok (.nx [.val L, .val X, .val F, jS o3, jS o4, .val A, .val Q, .val (.int (Nat.gcd x y)), .val (.int 0)]), n)
  | 0, f, x, y, h, _ => absurd h (by omega)
  | k + 1, 0, x, y, h, hf => absurd hf (by omega)
  | k + 1, f + 1, x, y, h, hf => by
    by_cases z : y = 0
    · subst z
      rw [Nat.gcd_zero_right]
      refine while_end ?_
      unfold fbT
      simp_arith []
    · rw [while_go (ρ1 := [.val L, .val X, .val F, jS o3, jS o4, .val A, .val Q, .val (.int y), .val (.int (x % y : Nat))]) (n1 := n)]
      · rw [gcd_while L X F o3 o4 A Q n k f y (x % y) (by have := Nat.mod_lt x (y := y) (by omega); omega) (by omega)]
        have e : Nat.gcd y (x % y) = Nat.gcd x y := by rw [Nat.gcd_comm x y, Nat.gcd_rec y x, Nat.gcd_comm]
        rw [e]
      · unfold fbT
        simp_arith []
      · unfold fbB
        have e : ((x % y : Nat) : Int) = (x : Int) % (y : Int) := rfl
        rw [e]
        have m := dMod_int (i := (x : Int)) (j := (y : Int)) (by omega)
        simp_arith [m]
theorem farby_ok (b e : Int) {T : List Ms} (h : OkT T) (n : Int) : ∃ m ∈ T, (∀ y ∈ T, vl (dst b e y) ≤ vl (dst b e m) ∧ (y.s < m.s → vl (dst b e y) < vl (dst b e m))) ∧ ∃ A Q : Nat, (A : Int) = (dst b e m).1 ∧ (Q : Int) = m.q ∧ f_far_by [lnD b e, tD T] n = some (.ok (.tup [.tup [.int (A / Nat.gcd A Q : Nat), .int (Q / Nat.gcd A Q : Nat)], .int m.s]), n) := by
  have w := wanted_ok h n
  have st := sorted_tD h.len
  have sp := sT_sorted T
  have mm := @mem_sT T
  have lk := @look_tD T h.nd
  have dk := fun m (hm : m ∈ T) => distance_ok b e n (h.ok m hm)
  have q0 : QOk (-1, 1) := ⟨by decide, by decide⟩
  have hok := h.ok
  unfold f_far_by g_far_by
  generalize tD T = X at *
  generalize lnD b e = L at *
  simp_arith [w, st]
  obtain ⟨ρ', k1, o3, o4, k2⟩ := for_pre (h := fun m : Ms => D.int m.s) (g := gV 3) (n := n) (b := (sSeq (sAsg (gV 4) (eCall (f_distance) (eCons (eVar 0) (eCons (eVar 3) (eCons (e2 dIxA (eVar 1) (eVar 3)) eNil)))))
  (sIf (tTru (eCall (f_is_less) (eCons (e2 dIx (eVar 2) (eC (.int 0))) (eCons (eVar 4) eNil)))) (sAsg (gV 2) (eTup (eCons (eVar 4) (eCons (eVar 3) eNil)))) sNx))) (xs := sT T) (ys := []) (fun ys ρ => ∃ o3 o4, (ys = [] ∧ ρ = [.val L, .val X, .val (.tup [prD (-1, 1), .non]), jS o3, jS o4, .no, .no, .no, .no]) ∨ (∃ m ∈ ys, (∀ y ∈ ys, vl (dst b e y) ≤ vl (dst b e m) ∧ (y.s < m.s → vl (dst b e y) < vl (dst b e m))) ∧ ρ = [.val L, .val X, .val (.tup [prD (dst b e m), .int m.s]), jS o3, jS o4, .no, .no, .no, .no])) (fun ys x zs he ρ hi => by
    have hx : x ∈ T := mm.mp (by rw [← he]; simp)
    have lx := lk hx
    have dx := dk x hx
    have ox := hok x hx
    have qx := @dst_ok b e x ox
    obtain ⟨o3, o4, hi⟩ := hi
    rcases hi with ⟨rfl, rfl⟩ | ⟨m, hm, hi, rfl⟩
    · have l1 := less_ok q0 qx n
      have c : (-1, 1).1 * (dst b e x).2 < (dst b e x).1 * (-1, 1).2 := by
        have a1 := ox.q1
        show -1 * x.q < (((b + e * x.s) * x.q - x.p).natAbs : Int) * 1
        omega
      rw [decide_eq_true c] at l1
      refine ⟨_, [.val L, .val X, .val (.tup [prD (dst b e x), .int x.s]), jS (some (.int x.s)), jS (some (prD (dst b e x))), .no, .no, .no, .no], rfl, ?_, some (.int x.s), some (prD (dst b e x)), .inr ⟨x, by simp, fun y hy => ?_, rfl⟩⟩
      · show (_ : Option (Except Xc Out × Int)) = some (.ok (.nx [.val L, .val X, .val (.tup [prD (dst b e x), .int x.s]), .val (.int x.s), .val (prD (dst b e x)), .no, .no, .no, .no]), n)
        generalize x.d = Y at *
        generalize prD (dst b e x) = Z at *
        generalize prD (-1, 1) = Z0 at *
        simp_arith [lx, dx, l1]
      · rw [List.nil_append] at hy
        rw [List.mem_singleton.mp hy]
        exact ⟨Int.le_refl _, fun z => absurd z (by omega)⟩
    · have hmT : m ∈ T := mm.mp (by rw [← he]; simp [hm])
      have qm := @dst_ok b e m (hok m hmT)
      have l1 := less_ok qm qx n
      have lv := less_vl qm qx
      have so : ∀ y ∈ ys, y.s ≤ x.s := by
        rw [← he, List.pairwise_append] at sp
        exact fun y hy => sp.2.2 y hy x List.mem_cons_self
      by_cases c : vl (dst b e m) < vl (dst b e x)
      · rw [decide_eq_true (lv.mpr c)] at l1
        refine ⟨_, [.val L, .val X, .val (.tup [prD (dst b e x), .int x.s]), jS (some (.int x.s)), jS (some (prD (dst b e x))), .no, .no, .no, .no], rfl, ?_, some (.int x.s), some (prD (dst b e x)), .inr ⟨x, by simp, fun y hy => ?_, rfl⟩⟩
        · show (_ : Option (Except Xc Out × Int)) = some (.ok (.nx [.val L, .val X, .val (.tup [prD (dst b e x), .int x.s]), .val (.int x.s), .val (prD (dst b e x)), .no, .no, .no, .no]), n)
          generalize x.d = Y at *
          generalize prD (dst b e x) = Z at *
          generalize prD (dst b e m) = Z0 at *
          simp_arith [lx, dx, l1]
        · rcases List.mem_append.mp hy with hy | hy
          · have := (hi y hy).1
            omega
          · rw [List.mem_singleton.mp hy]
            omega
      · rw [decide_eq_false fun z => c (lv.mp z)] at l1
        refine ⟨_, [.val L, .val X, .val (.tup [prD (dst b e m), .int m.s]), jS (some (.int x.s)), jS (some (prD (dst b e x))), .no, .no, .no, .no], rfl, ?_, some (.int x.s), some (prD (dst b e x)), .inr ⟨m, by simp [hm], fun y hy => ?_, rfl⟩⟩
        · show (_ : Option (Except Xc Out × Int)) = some (.ok (.nx [.val L, .val X, .val (.tup [prD (dst b e m), .int m.s]), .val (.int x.s), .val (prD (dst b e x)), .no, .no, .no, .no]), n)
          generalize x.d = Y at *
          generalize prD (dst b e x) = Z at *
          generalize prD (dst b e m) = Z0 at *
          simp_arith [lx, dx, l1]
        · rcases List.mem_append.mp hy with hy | hy
          · exact hi y hy
          · rw [List.mem_singleton.mp hy]
            have := so m hm
            omega) (zs := sT T) rfl (ρ := [.val L, .val X, .val (.tup [prD (-1, 1), .non]), .no, .no, .no, .no, .no, .no]) ⟨none, none, .inl ⟨rfl, rfl⟩⟩
  have eP : (D.tup [.tup [.int (-1), .int 1], .non]) = .tup [prD (-1, 1), .non] := rfl
  rw [eP, k1]
  rcases k2 with ⟨z, _⟩ | ⟨m, hm, hi, rfl⟩
  · exfalso
    obtain ⟨y, hy⟩ := List.exists_mem_of_ne_nil T h.ne
    have := mm.mpr hy
    rw [z] at this
    exact List.not_mem_nil this
  · have hmT := mm.mp hm
    have ok := hok m hmT
    have a1 := ok.q1
    have a2 := ok.q60
    refine ⟨m, hmT, fun y hy => hi y (mm.mpr hy), ((b + e * m.s) * m.q - m.p).natAbs, m.q.toNat, rfl, by omega, ?_⟩
    have eq : m.q = (m.q.toNat : Int) := by omega
    have e1 : prD (dst b e m) = .tup [.int (((b + e * m.s) * m.q - m.p).natAbs : Nat), .int (m.q.toNat : Nat)] := by
      unfold prD dst
      rw [← eq]
    rw [e1]
    clear e1 hi k1
    generalize ((b + e * m.s) * m.q - m.p).natAbs = A at *
    have hq : 1 ≤ m.q.toNat ∧ m.q.toNat ≤ 60 := by omega
    generalize m.q.toNat = Q at *
    have wh := gcd_while L X (.tup [.tup [.int A, .int Q], .int m.s]) o3 o4 (.int A) (.int Q) n 61 1000000 A Q (by omega) (by omega)
    unfold fbT fbB at wh
    simp_arith []
    rw [wh]
    have g1 : 0 < Nat.gcd A Q := Nat.gcd_pos_of_pos_right _ (by omega)
    have g2 : Nat.gcd A Q ≤ Q := Nat.le_of_dvd (by omega) (Nat.gcd_dvd_right A Q)
    generalize Nat.gcd A Q = g at *
    have d1 := dDiv_int (i := (A : Int)) (j := (g : Int)) (by omega) (by omega)
    have d2 := dDiv_int (i := (Q : Int)) (j := (g : Int)) (by omega) (by omega)
    have c1 : ((A / g : Nat) : Int) = (A : Int) / (g : Int) := rfl
    have c2 : ((Q / g : Nat) : Int) = (Q : Int) / (g : Int) := rfl
    rw [c1, c2]
    simp_arith [d1, d2]
end K73
end

section
set_option Elab.async false
set_option linter.all false
set_option autoImplicit false
set_option maxRecDepth 100000
set_option maxHeartbeats 400000

namespace K73
open DL PySem L2 P_k73_whole_grades PyProof.Rows
def LL0 (W : Wd) : SX := (sAsg (gV 2) (eTup (eCons (e2 dSub (eCall (f__law_take W) (eCons (eVar 1) (eCons (eC (.int 40)) eNil))) (eC (.int 10))) (eCons (e2 dSub (eCall (f__law_take W) (eCons (eVar 1) (eCons (eC (.int 13)) eNil))) (eC (.int 5))) eNil))))
def LL1 (W : Wd) : SX := (sOwn 3 (.dic [] []))
def LL2b0 (W : Wd) : SX := (sAsg (gT (gsC (gV 5) (gsC (gV 6) gsN))) (eTup (eCons (eCall (f__law_take W) (eCons (eVar 1) (eCons (eC (.int 9)) eNil))) (eCons (e2 dAdd (eC (.int 1)) (eCall (f__law_take W) (eCons (eVar 1) (eCons (eC (.int 3)) eNil)))) eNil))))
def LL2b1 (W : Wd) : SX := (sPut 3 (eVar 5) (eTup (eCons (e2 dSub (e2 dAdd (e2 dMul (e2 dAdd (e2 dIx (eVar 2) (eC (.int 0))) (e2 dMul (e2 dIx (eVar 2) (eC (.int 1))) (eVar 5))) (eVar 6)) (eCall (f__law_take W) (eCons (eVar 1) (eCons (eC (.int 9)) eNil)))) (eC (.int 4))) (eCons (eVar 6) eNil))))
def LL2b (W : Wd) : SX := (sSeq (LL2b0 W) (LL2b1 W))
def LL2 (W : Wd) : SX := (sFor (gV 4) (iRng1D (eCons (e2 dAdd (eC (.int 1)) (eCall (f__law_take W) (eCons (eVar 1) (eCons (eC (.int 4)) eNil)))) eNil)) (LL2b W))
def LL3 (W : Wd) : SX := (sIf (tB (e2 dEq (eCall (f__law_take W) (eCons (eVar 1) (eCons (eC (.int 6)) eNil))) (eC (.int 0)))) (sPut 3 (eCall (f__law_take W) (eCons (eVar 1) (eCons (eC (.int 4)) eNil))) (eTup (eCons (eC (.int 10000)) (eCons (e2 dAdd (eC (.int 1)) (eCall (f__law_take W) (eCons (eVar 1) (eCons (eC (.int 60)) eNil)))) eNil)))) sNx)
def LL4 (W : Wd) : SX := (sFrz 3)
def LL5 (W : Wd) : SX := (sAsg (gV 7) (eCall (f_grade) (eCons (eVar 3) eNil)))
def LL6 (W : Wd) : SX := (sAsg (gV 8) (eCall (f__law_far) (eCons (e1 (dFld 2 "line") (eVar 7)) (eCons (eVar 3) eNil))))
def LL7 (W : Wd) : SX := (sIf (tOrD (tNotD (tTru (eMeth 2 "shows" (f_Grade_shows) (eVar 7) (eCons (eVar 3) eNil)))) (tB (e2 dNe (eB dSorted (eCons (eB dLstA (eCons (e1 (dFld 2 "against") (eVar 7)) eNil)) eNil)) (e2 dLstR2 (e1 dNeg (eC (.int 9))) (eC (.int 10)))))) (sRet (eC (.bl false))) sNx)
def LL8 (W : Wd) : SX := (sAsg (gV 9) (eLst (eCons (e2 dIx (e1 (dFld 2 "line") (eVar 7)) (eC (.int 1))) (eCons (e2 dIx (eVar 2) (eC (.int 1))) (eCons (e2 dSub (eCall (f__law_take W) (eCons (eVar 1) (eCons (eC (.int 19)) eNil))) (eC (.int 9))) (eCons (e2 dSub (eCall (f__law_take W) (eCons (eVar 1) (eCons (eC (.int 19)) eNil))) (eC (.int 9))) eNil))))))
def LL9b0 (W : Wd) : SX := (sAsg (gT (gsC (gV 11) (gsC (gV 12) gsN))) (e2 dIxA (e1 (dFld 2 "against") (eVar 7)) (eVar 10)))
def LL9b1 (W : Wd) : SX := (sAsg (gV 13) (eB dDictA (eCons (eLst (eCons (eTup (eCons (eVar 11) (eCons (e2 dIxA (eVar 3) (eVar 11)) eNil))) (eCons (eTup (eCons (eVar 12) (eCons (e2 dIxA (eVar 3) (eVar 12)) eNil))) eNil))) eNil)))
def LL9b2 (W : Wd) : SX := (sIf (tOrD (tTru (eCall (f__law_less) (eCons (eCall (f__law_least) (eCons (eVar 13) (eCons (eVar 10) eNil))) (eCons (eVar 8) eNil)))) (tTru (eCall (f__law_less) (eCons (eCall (f__law_least) (eCons (eVar 3) (eCons (eVar 10) eNil))) (eCons (eVar 8) eNil))))) (sRet (eC (.bl false))) sNx)
def LL9b (W : Wd) : SX := (sSeq (LL9b0 W) (sSeq (LL9b1 W) (LL9b2 W)))
def LL9 (W : Wd) : SX := (sFor (gV 10) (iOf (eVar 9)) (LL9b W))
def LL10 (W : Wd) : SX := (sAsg (gT (gsC (gV 14) (gsC (gV 5) gsN))) (eCall (f_far_by) (eCons (e1 (dFld 2 "line") (eVar 7)) (eCons (eVar 3) eNil))))
def LL11 (W : Wd) : SX := (sIf (tOrD (tB (e2 dNe (e2 dMul (e2 dIx (eVar 14) (eC (.int 0))) (e2 dIx (eVar 8) (eC (.int 1)))) (e2 dMul (e2 dIx (eVar 8) (eC (.int 0))) (e2 dIx (eVar 14) (eC (.int 1)))))) (tB (e2 dNe (e2 dMul (e2 dIx (eCall (f__law_far) (eCons (e1 (dFld 2 "line") (eVar 7)) (eCons (eDisp (((eVar 5), (e2 dIxA (eVar 3) (eVar 5))) :: [])) eNil))) (eC (.int 0))) (e2 dIx (eVar 8) (eC (.int 1)))) (e2 dMul (e2 dIx (eVar 8) (eC (.int 0))) (e2 dIx (eCall (f__law_far) (eCons (e1 (dFld 2 "line") (eVar 7)) (eCons (eDisp (((eVar 5), (e2 dIxA (eVar 3) (eVar 5))) :: [])) eNil))) (eC (.int 1))))))) (sRet (eC (.bl false))) sNx)
def LL12 (W : Wd) : SX := (sIf (tTru (eB dAny (eCons (eComp [17] (gV 17) (iKeyD (eVar 3)) (tB (e2 dLt (eVar 17) (eVar 5))) (eNot (eCall (f__law_less) (eCons (eCall (f__law_far) (eCons (e1 (dFld 2 "line") (eVar 7)) (eCons (eDisp (((eVar 17), (e2 dIxA (eVar 3) (eVar 17))) :: [])) eNil))) (eCons (eVar 8) eNil))))) eNil))) (sRet (eC (.bl false))) sNx)
def LL13 (W : Wd) : SX := (sPar [11, 15] (eCons (e2 dIx (eVar 14) (eC (.int 1))) (eCons (e2 dIx (eVar 14) (eC (.int 0))) eNil)))
def LL14b0 (W : Wd) : SX := (sIf (tB (e2 dNe (eVar 15) (eC (.int 0)))) (sPar [11, 15] (eCons (eVar 15) (eCons (e2 dMod (eB dIntA (eCons (eVar 11) eNil)) (eVar 15)) eNil))) sNx)
def LL14b (W : Wd) : SX := (LL14b0 W)
def LL14 (W : Wd) : SX := (sFor (gV 4) (iRng1D (eCons (eC (.int 60)) eNil)) (LL14b W))
def LL15 (W : Wd) : SX := (sIf (tOrD (tB (e2 dNe (eVar 11) (eC (.int 1)))) (tB (e2 dLt (e2 dIx (eVar 14) (eC (.int 1))) (eC (.int 1))))) (sRet (eC (.bl false))) sNx)
def LL16 (W : Wd) : SX := (sAsg (gV 16) (eTup (eCons (eIf (tB (e2 dLt (e2 dIx (e1 (dFld 2 "line") (eVar 7)) (eC (.int 0))) (eC (.int 90)))) (e2 dAdd (e2 dIx (e1 (dFld 2 "line") (eVar 7)) (eC (.int 0))) (eC (.int 7))) (e2 dSub (e2 dIx (e1 (dFld 2 "line") (eVar 7)) (eC (.int 0))) (eC (.int 7)))) (eCons (e2 dIx (e1 (dFld 2 "line") (eVar 7)) (eC (.int 1))) eNil))))
def LL17 (W : Wd) : SX := (sIf (tB (e2 dNe (eMeth 2 "shows" (f_Grade_shows) (eMake 2 (f_Grade___init__) (eCons (eVar 16) (eCons (e1 (dFld 2 "against") (eVar 7)) eNil))) (eCons (eVar 3) eNil)) (eNot (eCall (f__law_less) (eCons (eVar 8) (eCons (eCall (f__law_far) (eCons (eVar 16) (eCons (eVar 3) eNil))) eNil)))))) (sRet (eC (.bl false))) sNx)
def LL18 (W : Wd) : SX := (sAsg (gV 10) (e2 dSub (eCall (f__law_take W) (eCons (eVar 1) (eCons (eC (.int 19)) eNil))) (eC (.int 9))))
def LL19 (W : Wd) : SX := (sAsg (gV 17) (eB dDictA (eCons (eComp [19] (gV 19) (iItmD (e1 (dFld 2 "against") (eVar 7))) (tB (e2 dNe (e2 dIx (eVar 19) (eC (.int 0))) (eVar 10))) (eVar 19)) eNil)))
def LL20 (W : Wd) : SX := (sIf (tTru (eMeth 2 "shows" (f_Grade_shows) (eMake 2 (f_Grade___init__) (eCons (e1 (dFld 2 "line") (eVar 7)) (eCons (eVar 17) eNil))) (eCons (eVar 3) eNil))) (sRet (eC (.bl false))) sNx)
def LL21b0 (W : Wd) : SX := (sTry tr1 (sSeqX (sExp (eCall (f_grade) (eCons (eVar 18) eNil))) (sRet (eC (.bl false)))) sNx)
def LL21b (W : Wd) : SX := (LL21b0 W)
def LL21 (W : Wd) : SX := (sFor (gV 18) (iOf (eTup (eCons (eC (.dic [] [])) (eCons (eC .non) (eCons (eDisp (((eC (.int 0)), (eC (.int 5))) :: [])) (eCons (eDisp (((eC (.int 0)), (eTup (eCons (eC (.int 1)) (eCons (eC (.int 0)) eNil)))) :: [])) (eCons (eDisp (((eC (.int 0)), (eTup (eCons (eC (.int 1)) (eCons (e1 dNeg (eC (.int 1))) eNil)))) :: [])) (eCons (eDisp (((e1 dNeg (eC (.int 1))), (eTup (eCons (eC (.int 1)) (eCons (eC (.int 1)) eNil)))) :: [])) (eCons (eDisp (((eC (.int 1001)), (eTup (eCons (eC (.int 1)) (eCons (eC (.int 1)) eNil)))) :: [])) (eCons (eOdd true (eTup (eCons (eC (.int 1)) (eCons (eC (.int 1)) eNil)))) (eCons (eDisp (((eC (.int 0)), (eTup (eCons (eC (.int 10001)) (eCons (eC (.int 1)) eNil)))) :: [])) (eCons (eDisp (((eC (.int 0)), (eTup (eCons (eC (.int 1)) (eCons (eC (.int 1)) (eCons (eC (.int 1)) eNil))))) :: [])) eNil)))))))))))) (LL21b W))
def LL22 (W : Wd) : SX := (sRet (eC (.bl true)))
def LL (W : Wd) : SX := (sSeq (LL0 W) (sSeq (LL1 W) (sSeq (LL2 W) (sSeq (LL3 W) (sSeq (LL4 W) (sSeq (LL5 W) (sSeq (LL6 W) (sSeq (LL7 W) (sSeq (LL8 W) (sSeq (LL9 W) (sSeq (LL10 W) (sSeq (LL11 W) (sSeq (LL12 W) (sSeq (LL13 W) (sSeq (LL14 W) (sSeq (LL15 W) (sSeq (LL16 W) (sSeq (LL17 W) (sSeq (LL18 W) (sSeq (LL19 W) (sSeq (LL20 W) (sSeq (LL21 W) (LL22 W)))))))))))))))))))))))
theorem LL_eq (W : Wd) : g_law W = LL W := rfl
structure WkT (k : Nat) (T : List Ms) : Prop where
  nd : (T.map Ms.k).Nodup
  len : T.length ≤ k
  ok : OkM T
def putT (T : List Ms) (m : Ms) : List Ms := if (T.map Ms.k).any (fun x => decide (x = m.k)) = true then T.map (fun y => if y.k = m.k then m else y) else T ++ [m]
theorem zip_put (m : Ms) : ∀ T : List Ms, List.zipWith (fun x e => if x = m.k then m.d else e) (T.map Ms.k) (T.map Ms.d) = (T.map (fun y => if y.k = m.k then m else y)).map Ms.d
  | [] => rfl
  | y :: r => by
    rw [List.map_cons, List.map_cons, List.map_cons, List.map_cons, List.zipWith_cons_cons, zip_put m r]
    congr 1
    split <;> rfl
theorem keys_put (m : Ms) : ∀ T : List Ms, (T.map (fun y => if y.k = m.k then m else y)).map Ms.k = T.map Ms.k
  | [] => rfl
  | y :: r => by
    rw [List.map_cons, List.map_cons, List.map_cons, keys_put m r]
    congr 1
    split
    · rename_i h
      exact h.symm
    · rfl
theorem put_D {T : List Ms} (m : Ms) (h : T.length ≤ 1000) : dPut (.int m.s, m.d) (tD T) = some (tD (putT T m)) := by
  have hs : (T.map Ms.k).length < sizeLine := by rw [List.length_map]; unfold sizeLine; omega
  show (if (T.map Ms.k).length < sizeLine then some (D.dic (dkKs (T.map Ms.k) m.k) (dkDs (T.map Ms.k) (T.map Ms.d) m.k m.d)) else none) = _
  rw [if_pos hs]
  unfold dkKs dkDs putT tD
  by_cases c : ((T.map Ms.k).any fun x => decide (x = m.k)) = true
  · rw [if_pos c, if_pos c, if_pos c, zip_put, keys_put]
  · rw [if_neg c, if_neg c, if_neg c, List.map_append, List.map_append]
    rfl
theorem put_ok {k : Nat} {T : List Ms} (h : WkT k T) {m : Ms} (hm : m.Ok) : WkT (k + 1) (putT T m) ∧ putT T m ≠ [] := by
  unfold putT
  by_cases c : ((T.map Ms.k).any fun x => decide (x = m.k)) = true
  · rw [if_pos c]
    refine ⟨⟨by rw [keys_put]; exact h.nd, by rw [List.length_map]; have := h.len; omega, fun x hx => ?_⟩, ?_⟩
    · obtain ⟨y, hy, rfl⟩ := List.mem_map.mp hx
      split
      · exact hm
      · exact h.ok y hy
    · intro z
      rw [List.map_eq_nil_iff] at z
      subst z
      exact absurd c (by simp)
  · rw [if_neg c]
    refine ⟨⟨?_, by rw [List.length_append]; have := h.len; simp; omega, fun x hx => ?_⟩, by simp⟩
    · rw [List.map_append, List.nodup_append]
      refine ⟨h.nd, by simp, fun a ha b hb => ?_⟩
      rintro rfl
      refine c (List.any_eq_true.mpr ⟨a, ha, ?_⟩)
      rw [decide_eq_true_eq]
      simpa using hb
    · rcases List.mem_append.mp hx with hx | hx
      · exact h.ok x hx
      · rw [List.mem_singleton.mp hx]
        exact hm
theorem ll0 (W : Wd) (n : Int) : ∃ b0 e0 : Int, (-10 ≤ b0 ∧ b0 ≤ 29) ∧ (-5 ≤ e0 ∧ e0 ≤ 7) ∧ LL0 W (.val .scr :: .val .drw :: List.replicate 18 .no) n = some (.ok (.nx (.val .scr :: .val .drw :: .val (lnD b0 e0) :: List.replicate 17 .no)), n + 1 + 1) := by
  obtain ⟨v0, a0, c0, t0⟩ := take_ok W 40 n (by decide)
  obtain ⟨v1, a1, c1, t1⟩ := take_ok W 13 (n + 1) (by decide)
  replace t0 : f__law_take W [.drw, .int 40] n = _ := t0
  replace t1 : f__law_take W [.drw, .int 13] (n + 1) = _ := t1
  refine ⟨v0 - 10, v1 - 5, by omega, by omega, ?_⟩
  unfold LL0 lnD
  simp_arith [t0, t1]
def EW (b0 e0 : Int) (s3 : Sl) (o4 o5 o6 : Option D) : DL.Env := .val .scr :: .val .drw :: .val (lnD b0 e0) :: s3 :: jS o4 :: jS o5 :: jS o6 :: List.replicate 13 .no
theorem mul_rng {a b x y z : Int} (h1 : -10 ≤ a ∧ a ≤ 29) (h2 : -5 ≤ b ∧ b ≤ 7) (h3 : 0 ≤ x ∧ x ≤ 8) (h4 : 1 ≤ y ∧ y ≤ 3) (h5 : 0 ≤ z ∧ z ≤ 8) : -10000 ≤ (a + b * x) * y + z - 4 ∧ (a + b * x) * y + z - 4 ≤ 10000 ∧ -1000 ≤ a + b * x ∧ a + b * x ≤ 1000 := by
  have k1 : b * x ≤ 7 * 8 ∧ -40 ≤ b * x := by
    have hx : x = 0 ∨ x = 1 ∨ x = 2 ∨ x = 3 ∨ x = 4 ∨ x = 5 ∨ x = 6 ∨ x = 7 ∨ x = 8 := by omega
    rcases hx with rfl | rfl | rfl | rfl | rfl | rfl | rfl | rfl | rfl <;> omega
  have hy : y = 1 ∨ y = 2 ∨ y = 3 := by omega
  generalize b * x = c at *
  rcases hy with rfl | rfl | rfl <;> omega
theorem ll2b (W : Wd) {b0 e0 : Int} (hb : -10 ≤ b0 ∧ b0 ≤ 29) (he : -5 ≤ e0 ∧ e0 ≤ 7) {k : Nat} {T : List Ms} (h : WkT k T) (hk : k ≤ 100) (o4 o5 o6 : Option D) (n : Int) : ∃ T' o5' o6' n', WkT (k + 1) T' ∧ T' ≠ [] ∧ LL2b W (EW b0 e0 (.own (tD T)) o4 o5 o6) n = some (.ok (.nx (EW b0 e0 (.own (tD T')) o4 o5' o6')), n') := by
  obtain ⟨v0, a0, c0, t0⟩ := take_ok W 9 n (by decide)
  obtain ⟨v1, a1, c1, t1⟩ := take_ok W 3 (n + 1) (by decide)
  obtain ⟨v2, a2, c2, t2⟩ := take_ok W 9 (n + 1 + 1) (by decide)
  replace t0 : f__law_take W [.drw, .int 9] n = _ := t0
  replace t1 : f__law_take W [.drw, .int 3] (n + 1) = _ := t1
  replace t2 : f__law_take W [.drw, .int 9] (n + 1 + 1) = _ := t2
  have r := mul_rng hb he (x := v0) (y := 1 + v1) (z := v2) (by omega) (by omega) (by omega)
  have mk : Ms.Ok ⟨v0, (b0 + e0 * v0) * (1 + v1) + v2 - 4, 1 + v1⟩ := ⟨by show 0 ≤ v0; omega, by show v0 ≤ 8; omega, r.1, r.2.1, by show 1 ≤ 1 + v1; omega, by show 1 + v1 ≤ 60; omega⟩
  have pd : dPut (.int v0, .tup [.int ((b0 + e0 * v0) * (1 + v1) + v2 - 4), .int (1 + v1)]) (tD T) = some (tD (putT T _)) := put_D (T := T) ⟨v0, (b0 + e0 * v0) * (1 + v1) + v2 - 4, 1 + v1⟩ (by have := h.len; omega)
  obtain ⟨w1, w2⟩ := put_ok h mk
  refine ⟨_, some (.int v0), some (.int (1 + v1)), n + 1 + 1 + 1, w1, w2, ?_⟩
  unfold LL2b LL2b0 LL2b1 EW lnD
  generalize putT T _ = T' at *
  generalize tD T' = X' at *
  generalize tD T = X at *
  show _ = some (Except.ok (Out.nx (.val .scr :: .val .drw :: .val (.tup [.int b0, .int e0]) :: .own X' :: jS o4 :: .val (.int v0) :: .val (.int (1 + v1)) :: List.replicate 13 .no)), n + 1 + 1 + 1)
  simp_arith [t0, t1, t2, pd]
theorem ll2 (W : Wd) {b0 e0 : Int} (hb : -10 ≤ b0 ∧ b0 ≤ 29) (he : -5 ≤ e0 ∧ e0 ≤ 7) (n : Int) : ∃ T o4 o5 o6 n', WkT 4 T ∧ T ≠ [] ∧ LL2 W (EW b0 e0 (.own (tD [])) none none none) n = some (.ok (.nx (EW b0 e0 (.own (tD T)) o4 o5 o6)), n') := by
  obtain ⟨v0, a0, c0, t0⟩ := take_ok W 4 n (by decide)
  replace t0 : f__law_take W [.drw, .int 4] n = _ := t0
  obtain ⟨k, hk⟩ : ∃ k : Nat, v0 = (k : Int) := ⟨v0.toNat, by omega⟩
  subst hk
  have rg : dRng1 [.int (1 + (k : Int))] = some ((List.range (1 + k)).map fun i : Nat => D.int i) := rng1_nat (k := 1 + k) (by omega)
  obtain ⟨ρ', n', h1, o4, o5, o6, T, h2, h3, h4⟩ := for_draw (h := fun i : Nat => D.int i) (g := gV 4) (b := LL2b W) (xs := List.range (1 + k)) (ys := []) (fun ys ρ => ∃ o4 o5 o6 T, WkT ys.length T ∧ (ys ≠ [] → T ≠ []) ∧ ρ = EW b0 e0 (.own (tD T)) o4 o5 o6) (fun ys x zs hx ρ n hi => by
    obtain ⟨o4, o5, o6, T, h2, h3, rfl⟩ := hi
    have hl : ys.length ≤ 100 := by
      have := congrArg List.length hx
      simp at this
      omega
    obtain ⟨T', o5', o6', n', w1, w2, e1⟩ := ll2b W hb he h2 hl (some (.int x)) o5 o6 n
    refine ⟨_, _, n', rfl, e1, some (.int x), o5', o6', T', ?_, fun _ => w2, rfl⟩
    rw [List.length_append]
    exact w1) (zs := List.range (1 + k)) rfl (ρ := EW b0 e0 (.own (tD [])) none none none) (n := n + 1) ⟨none, none, none, [], ⟨by simp, by simp, fun m hm => (List.not_mem_nil hm).elim⟩, fun z => absurd rfl z, rfl⟩
  subst h4
  refine ⟨T, o4, o5, o6, n', ⟨h2.nd, ?_, h2.ok⟩, h3 ?_, ?_⟩
  · have := h2.len
    rw [List.length_range] at this
    omega
  · intro z
    have q : 1 + k = 0 := by simpa using congrArg List.length z
    omega
  · unfold LL2
    have eE : EW b0 e0 (.own (tD [])) none none none = .val .scr :: .val .drw :: .val (lnD b0 e0) :: .own (tD []) :: .no :: .no :: .no :: List.replicate 13 .no := rfl
    rw [eE] at h1 ⊢
    generalize LL2b W = B at *
    generalize lnD b0 e0 = L at *
    generalize tD [] = X0 at *
    replace h1 : forD (gV 4) B ((List.range (1 + k)).map fun i : Nat => D.int i) [.val .scr, .val .drw, .val L, .own X0, .no, .no, .no, .no, .no, .no, .no, .no, .no, .no, .no, .no, .no, .no, .no, .no] (n + 1) = _ := h1
    simp_arith [t0, rg]
    rw [h1]
    first | done | rfl | trace_state
theorem ll3 (W : Wd) {b0 e0 : Int} {T : List Ms} (h : WkT 4 T) (hn : T ≠ []) (o4 o5 o6 : Option D) (n : Int) : ∃ T' n', OkT T' ∧ LL3 W (EW b0 e0 (.own (tD T)) o4 o5 o6) n = some (.ok (.nx (EW b0 e0 (.own (tD T')) o4 o5 o6)), n') := by
  obtain ⟨v0, a0, c0, t0⟩ := take_ok W 6 n (by decide)
  replace t0 : f__law_take W [.drw, .int 6] n = _ := t0
  by_cases z : v0 = 0
  · subst z
    obtain ⟨v1, a1, c1, t1⟩ := take_ok W 60 (n + 1) (by decide)
    obtain ⟨v2, a2, c2, t2⟩ := take_ok W 4 (n + 1 + 1) (by decide)
    replace t1 : f__law_take W [.drw, .int 60] (n + 1) = _ := t1
    replace t2 : f__law_take W [.drw, .int 4] (n + 1 + 1) = _ := t2
    have mk : Ms.Ok ⟨v2, 10000, 1 + v1⟩ := ⟨by show 0 ≤ v2; omega, by show v2 ≤ 8; omega, by show (-10000 : Int) ≤ 10000; decide, by show (10000 : Int) ≤ 10000; decide, by show 1 ≤ 1 + v1; omega, by show 1 + v1 ≤ 60; omega⟩
    have pd : dPut (.int v2, .tup [.int 10000, .int (1 + v1)]) (tD T) = some (tD (putT T _)) := put_D (T := T) ⟨v2, 10000, 1 + v1⟩ (by have := h.len; omega)
    obtain ⟨w1, w2⟩ := put_ok h mk
    refine ⟨_, n + 1 + 1 + 1, ⟨w2, w1.nd, by have := w1.len; omega, w1.ok⟩, ?_⟩
    unfold LL3 EW
    generalize putT T _ = T' at *
    generalize tD T' = X' at *
    generalize tD T = X at *
    generalize lnD b0 e0 = L at *
    simp_arith [t0, t1, t2, pd]
  · refine ⟨T, n + 1, ⟨hn, h.nd, by have := h.len; omega, h.ok⟩, ?_⟩
    unfold LL3 EW
    generalize tD T = X at *
    generalize lnD b0 e0 = L at *
    simp_arith [t0]
theorem ll4 (W : Wd) {b0 e0 : Int} (T : List Ms) (o4 o5 o6 : Option D) (n : Int) : LL4 W (EW b0 e0 (.own (tD T)) o4 o5 o6) n = some (.ok (.nx (EW b0 e0 (.val (tD T)) o4 o5 o6)), n) := by
  unfold LL4 EW tD
  generalize lnD b0 e0 = L at *
  simp_arith []
end K73
end

section
set_option Elab.async false
set_option linter.all false
set_option autoImplicit false
set_option maxRecDepth 100000
set_option maxHeartbeats 400000

namespace K73
open DL PySem L2 P_k73_whole_grades PyProof.Rows
theorem ll21 (W : Wd) (a2 a3 a4 a5 : D) (o6 : Option D) (a7 a8 a9 a10 a11 a12 a13 a14 a15 a16 a17 : D) (n : Int) : ∃ d18, LL21 W [.val .scr, .val .drw, .val a2, .val a3, .val a4, .val a5, jS o6, .val a7, .val a8, .val a9, .val a10, .val a11, .val a12, .val a13, .val a14, .val a15, .val a16, .val a17, .no, .no] n = some (.ok (.nx [.val .scr, .val .drw, .val a2, .val a3, .val a4, .val a5, jS o6, .val a7, .val a8, .val a9, .val a10, .val a11, .val a12, .val a13, .val a14, .val a15, .val a16, .val a17, .val d18, .no]), n) := by
  refine ⟨.dic [.inl 0] [.tup [.int 1, .int 1, .int 1]], ?_⟩
  cases o6
  · kernel_rfl
  · kernel_rfl
end K73
end

section
set_option Elab.async false
set_option linter.all false
set_option autoImplicit false
set_option maxRecDepth 100000
set_option maxHeartbeats 400000

namespace K73
open DL PySem L2 P_k73_whole_grades PyProof.Rows
structure Gd (T : List Ms) (e1 : Int) : Prop where
  hT : OkT T
  r : -9 ≤ e1 ∧ e1 ≤ 9
  le : ∀ i, -9 ≤ i → i ≤ 9 → mG T e1 ≤ mG T i
def gO (T : List Ms) (e1 : Int) : D := gD (nbT T e1) e1 (AG T)
def gF (T : List Ms) (e1 : Int) : Pr := gr T (nbT T e1) e1
theorem nbT_in (T : List Ms) (e : Int) : -99 ≤ nbT T e ∧ nbT T e ≤ 99 := nb_in _ _
theorem Gd.val {T : List Ms} {e1 : Int} (g : Gd T e1) : vl (gF T e1) = mG T e1 := gr_gT g.hT _ _
theorem Gd.q {T : List Ms} {e1 : Int} (g : Gd T e1) : QOk (gF T e1) := (gr_spec g.hT.ok _ _).1
theorem all_mG {T : List Ms} {e1 : Int} (g : Gd T e1) (V : Int) : (R19.all fun i => !decide (mG T i < V)) = !decide (mG T e1 < V) := by
  by_cases c : mG T e1 < V
  · rw [decide_eq_true c, List.all_eq_false.mpr ⟨e1, mem_R19.mpr g.r, by simp [c]⟩]
    rfl
  · rw [decide_eq_false c]
    refine List.all_eq_true.mpr fun i hi => ?_
    have := mem_R19.mp hi
    have := g.le i this.1 this.2
    simp
    omega
theorem is_shows (b e : Int) (A : D) : isObj 2 "shows" (gD b e A) = true := by kernel_rfl
theorem shows_self {T : List Ms} {e1 : Int} (g : Gd T e1) (n : Int) : f_Grade_shows [gO T e1, tD T] n = some (.ok (.bl true), n) := by
  unfold gO
  rw [shows_ok g.hT (nbT_in T e1) g.r n, all_mG g]
  have h := g.val
  unfold gF at h
  have : ¬ mG T e1 < vl (gr T (nbT T e1) e1) := by omega
  rw [decide_eq_false this]
  rfl
theorem not_less {T : List Ms} {e1 : Int} (g : Gd T e1) {S : List Ms} {i b : Int} (hS : OkM S) (hv : mG T e1 ≤ vl (gr S b i)) (n : Int) : f__law_less [prD (gr S b i), prD (gF T e1)] n = some (.ok (.bl false), n) := by
  have q := (gr_spec hS b i).1
  rw [lless_ok q g.q n]
  have lv := less_vl q g.q
  rw [g.val] at lv
  rw [decide_eq_false fun z => absurd (lv.mp z) (by omega)]
theorem least_some {T : List Ms} {e1 : Int} (g : Gd T e1) {i : Int} (hi : i ∈ R19) (n : Int) : ∃ x : D, f__law_least [tD (Sm T i), .int i] n = some (.ok x, n) ∧ f__law_less [x, prD (gF T e1)] n = some (.ok (.bl false), n) := by
  have so := Sm_ok g.hT i
  have r := mem_R19.mp hi
  obtain ⟨b, b1, b2, e⟩ := lleast_ok i so.ok n
  refine ⟨_, e, not_less g so.ok ?_ n⟩
  rw [gr_gT so, Sm_gT g.hT]
  exact Int.le_trans (g.le i r.1 r.2) (mG_le i b b1 b2)
theorem least_all {T : List Ms} {e1 : Int} (g : Gd T e1) {i : Int} (hi : i ∈ R19) (n : Int) : ∃ x : D, f__law_least [tD T, .int i] n = some (.ok x, n) ∧ f__law_less [x, prD (gF T e1)] n = some (.ok (.bl false), n) := by
  have r := mem_R19.mp hi
  obtain ⟨b, b1, b2, e⟩ := lleast_ok i g.hT.ok n
  refine ⟨_, e, not_less g g.hT.ok ?_ n⟩
  rw [gr_gT g.hT]
  exact Int.le_trans (g.le i r.1 r.2) (mG_le i b b1 b2)
theorem some_dict {T : List Ms} (h : OkT T) (i : Int) : dDictA [.lst [.tup [.int (xh T i).s, (xh T i).d], .tup [.int (xl T i).s, (xl T i).d]]] = some (tD (Sm T i)) := by
  have x := (exs_some h i).2
  have pu := sm_put (k_inj h.nd x.hm x.lm)
  have e : mkDic ([xh T i, xl T i].map fun m => (m.k, m.d)) = tD (Sm T i) := by
    unfold mkDic
    rw [pu]
    rfl
  exact congrArg some e
/-! one size alone -/
theorem sg_ok {m : Ms} (h : m.Ok) : OkM [m] := fun x hx => by rw [List.mem_singleton.mp hx]; exact h
theorem sg_vl {m : Ms} (h : m.Ok) (b e : Int) : vl (gr [m] b e) = vl (dst b e m) := by
  have q0 : QOk (0, 1) := ⟨by decide, by decide⟩
  have e1 : gr [m] b e = stp (0, 1) (dst b e m) := rfl
  have e0 : vl (0, 1) = 0 := by unfold vl; exact Int.zero_mul _
  rw [e1, stp_vl q0 (dst_ok h), e0, dst_vl h]
  omega
theorem disp_one (m : Ms) : dispO [(.inl m.s, m.d)] = some (tD [m]) := rfl
theorem gF_max {T : List Ms} {e1 : Int} (g : Gd T e1) {m : Ms} (hm : m ∈ T) (h : ∀ y ∈ T, vl (dst (nbT T e1) e1 y) ≤ vl (dst (nbT T e1) e1 m)) : vl (gF T e1) = vl (dst (nbT T e1) e1 m) := by
  obtain ⟨_, h2, h3, h4⟩ := gr_spec g.hT.ok (nbT T e1) e1
  have a := h3 m hm
  have p := dst_vl (b := nbT T e1) (e := e1) (g.hT.ok m hm)
  unfold gF
  rcases h4 with h4 | ⟨y, hy, h4⟩
  · have e0 : vl (gr T (nbT T e1) e1) = 0 := by rw [h4]; unfold vl; exact Int.zero_mul _
    omega
  · have := h y hy
    rw [← h4] at this
    omega
/-! Euclid's turns -/
def stE (s : Nat × Nat) : Nat × Nat := if s.2 = 0 then s else (s.2, s.1 % s.2)
def itE : Nat → Nat × Nat → Nat × Nat
  | 0, s => s
  | k + 1, s => itE k (stE s)
theorem itE_z : ∀ (k x : Nat), itE k (x, 0) = (x, 0)
  | 0, _ => rfl
  | k + 1, x => itE_z k x
theorem itE_s {k x y : Nat} (h : y ≠ 0) : itE (k + 1) (x, y) = itE k (y, x % y) := by
  show itE k (if y = 0 then (x, y) else (y, x % y)) = _
  rw [if_neg h]
theorem itE_gcd : ∀ (j k x y : Nat), y < 2 ^ j → 2 * j ≤ k → itE k (x, y) = (Nat.gcd x y, 0)
  | 0, k, x, y, h, _ => by
    have : y = 0 := by simpa using h
    subst this
    rw [itE_z, Nat.gcd_zero_right]
  | j + 1, k, x, y, h, hk => by
    obtain ⟨k, rfl⟩ : ∃ k', k = k' + 2 := ⟨k - 2, by omega⟩
    by_cases z : y = 0
    · subst z
      rw [itE_z, Nat.gcd_zero_right]
    · have g1 : ∀ x y : Nat, Nat.gcd x y = Nat.gcd y (x % y) := fun x y => by rw [Nat.gcd_comm x y, Nat.gcd_rec y x, Nat.gcd_comm]
      rw [itE_s z, g1 x y]
      have hr := Nat.mod_lt x (y := y) (by omega)
      generalize x % y = r at *
      by_cases w : r = 0
      · subst w
        rw [itE_z, Nat.gcd_zero_right]
      · rw [itE_s w, g1 y r]
        refine itE_gcd j k r (y % r) ?_ (by omega)
        have h2 := Nat.mod_lt y (y := r) (by omega)
        rw [Nat.pow_succ] at h
        by_cases c : r ≤ 2 ^ j
        · omega
        · have e : y % r = (y - r) % r := (Nat.mod_eq_sub_mod (by omega)).trans rfl
          have l := Nat.mod_le (y - r) r
          omega
theorem fold_it {α : Type} : ∀ (xs : List α) (s : Nat × Nat), xs.foldl (fun s _ => stE s) s = itE xs.length s
  | [], _ => rfl
  | _ :: xs, s => fold_it xs (stE s)
theorem red_gcd {A Q : Nat} (h : 0 < Q) : Nat.gcd (Q / Nat.gcd A Q) (A / Nat.gcd A Q) = 1 := by
  have g0 : 0 < Nat.gcd A Q := Nat.gcd_pos_of_pos_right _ h
  have e1 := Nat.mul_div_cancel' (Nat.gcd_dvd_left A Q)
  have e2 := Nat.mul_div_cancel' (Nat.gcd_dvd_right A Q)
  have e3 : Nat.gcd A Q * Nat.gcd (A / Nat.gcd A Q) (Q / Nat.gcd A Q) = Nat.gcd A Q := by
    rw [← Nat.gcd_mul_left, e1, e2]
  rw [Nat.gcd_comm]
  generalize Nat.gcd (A / Nat.gcd A Q) (Q / Nat.gcd A Q) = c at *
  generalize Nat.gcd A Q = g at *
  exact Nat.eq_of_mul_eq_mul_left g0 (by omega)
theorem far_bound {m : Ms} (h : m.Ok) {b e : Int} (hb : -99 ≤ b ∧ b ≤ 99) (he : -9 ≤ e ∧ e ≤ 9) : ((b + e * m.s) * m.q - m.p).natAbs < 2 ^ 15 := by
  have h1 := h.s0
  have h2 := h.s8
  have h3 := h.q1
  have h4 := h.q60
  have h5 := h.p0
  have h6 := h.p1
  have k1 : -72 ≤ e * m.s ∧ e * m.s ≤ 72 := by
    have hx : m.s = 0 ∨ m.s = 1 ∨ m.s = 2 ∨ m.s = 3 ∨ m.s = 4 ∨ m.s = 5 ∨ m.s = 6 ∨ m.s = 7 ∨ m.s = 8 := by omega
    rcases hx with hx | hx | hx | hx | hx | hx | hx | hx | hx <;> rw [hx] <;> omega
  generalize e * m.s = c at *
  have k2 : (b + c) * m.q ≤ 171 * 60 := by
    refine Int.le_trans (Int.mul_le_mul_of_nonneg_right (show b + c ≤ 171 by omega) (by omega)) ?_
    exact Int.mul_le_mul_of_nonneg_left h4 (by omega)
  have k3 : -171 * 60 ≤ (b + c) * m.q := by
    refine Int.le_trans ?_ (Int.mul_le_mul_of_nonneg_right (show -171 ≤ b + c by omega) (by omega))
    omega
  omega
end K73
end

section
set_option Elab.async false
set_option linter.all false
set_option autoImplicit false
set_option maxRecDepth 100000
set_option maxHeartbeats 400000

namespace K73
open DL PySem L2 P_k73_whole_grades PyProof.Rows
theorem ne_bl (x : Bool) : dNe (.bl x) (.bl x) = some (.bl false) := by cases x <;> kernel_rfl
section
variable (W : Wd) {T : List Ms} {e1 b0 e0 : Int} (g : Gd T e1) (o4 o5 o6 : Option D) (n : Int)
include g
theorem ll56 (h : f_grade [tD T] n = some (.ok (gO T e1), n)) {K : Out → M Out} : bindR (sSeq (LL5 W) (LL6 W) (EW b0 e0 (.val (tD T)) o4 o5 o6) n) K = K (.nx [.val .scr, .val .drw, .val (lnD b0 e0), .val (tD T), jS o4, jS o5, jS o6, .val (gO T e1), .val (prD (gF T e1)), .no, .no, .no, .no, .no, .no, .no, .no, .no, .no, .no]) n := by
  have fl : dFld 2 "line" (gO T e1) = some (lnD (nbT T e1) e1) := gD_line _ _ _
  have fk : f__law_far [lnD (nbT T e1) e1, tD T] n = some (.ok (prD (gF T e1)), n) := lfar_ok (nbT T e1) e1 g.hT.ok n
  unfold LL5 LL6 EW
  generalize lnD (nbT T e1) e1 = L1 at *
  generalize lnD b0 e0 = L at *
  generalize tD T = X at *
  generalize gO T e1 = G at *
  generalize prD (gF T e1) = F at *
  simp_arith [h, fl, fk]
end
def EX (L X G F : D) (o4 o5 o6 : Option D) (r : List Sl) : DL.Env := .val .scr :: .val .drw :: .val L :: .val X :: jS o4 :: jS o5 :: jS o6 :: .val G :: .val F :: r
theorem lst_AG (T : List Ms) : dLstA [AG T] = some (.lst (R19.map D.int)) := by kernel_rfl
theorem srt_R19 : dSorted [.lst (R19.map D.int)] = some (.lst (R19.map D.int)) := by kernel_rfl
theorem rng_R19 : dLstR2 (.int (-9)) (.int 10) = some (.lst (R19.map D.int)) := by kernel_rfl
theorem ne_R19 : dNe (.lst (R19.map D.int)) (.lst (R19.map D.int)) = some (.bl false) := by kernel_rfl
section
variable (W : Wd) {T : List Ms} {e1 b0 e0 : Int} (g : Gd T e1) (o4 o5 o6 : Option D) (r : List Sl) (n : Int)
include g
theorem ll7 : LL7 W (EX (lnD b0 e0) (tD T) (gO T e1) (prD (gF T e1)) o4 o5 o6 r) n = some (.ok (.nx (EX (lnD b0 e0) (tD T) (gO T e1) (prD (gF T e1)) o4 o5 o6 r)), n) := by
  have fa : dFld 2 "against" (gO T e1) = some (AG T) := gD_against _ _ _
  have sh := shows_self g n
  have is : isObj 2 "shows" (gO T e1) = true := is_shows _ _ _
  have la := lst_AG T
  have sr := srt_R19
  have rr := rng_R19
  have nr := ne_R19
  unfold LL7 EX
  generalize lnD b0 e0 = L at *
  generalize AG T = A at *
  generalize tD T = X at *
  generalize gO T e1 = G at *
  generalize prD (gF T e1) = F at *
  generalize D.lst (R19.map D.int) = RL at *
  simp_arith [fa, sh, is, la, sr, rr, nr]
theorem ll8 (he : -5 ≤ e0 ∧ e0 ≤ 7) (r : List Sl) : ∃ r2 r3 : Int, r2 ∈ R19 ∧ r3 ∈ R19 ∧ LL8 W (EX (lnD b0 e0) (tD T) (gO T e1) (prD (gF T e1)) o4 o5 o6 (.no :: r)) n = some (.ok (.nx (EX (lnD b0 e0) (tD T) (gO T e1) (prD (gF T e1)) o4 o5 o6 (.val (.lst ([e1, e0, r2, r3].map D.int)) :: r))), n + 1 + 1) := by
  obtain ⟨v0, a0, c0, t0⟩ := take_ok W 19 n (by decide)
  obtain ⟨v1, a1, c1, t1⟩ := take_ok W 19 (n + 1) (by decide)
  replace t0 : f__law_take W [.drw, .int 19] n = _ := t0
  replace t1 : f__law_take W [.drw, .int 19] (n + 1) = _ := t1
  have fl : dFld 2 "line" (gO T e1) = some (lnD (nbT T e1) e1) := gD_line _ _ _
  have l1 := lnD_1 (nbT T e1) e1
  have l0 := lnD_1 b0 e0
  refine ⟨v0 - 9, v1 - 9, mem_R19.mpr (by omega), mem_R19.mpr (by omega), ?_⟩
  unfold LL8 EX
  generalize lnD (nbT T e1) e1 = L1 at *
  generalize lnD b0 e0 = L at *
  generalize tD T = X at *
  generalize gO T e1 = G at *
  generalize prD (gF T e1) = F at *
  simp_arith [fl, l1, l0, t0, t1]
theorem ll9b {i : Int} (hi : i ∈ R19) (R : D) (o11 o12 o13 : Option D) (r : List Sl) : ∃ d11 d12 d13, LL9b W (EX (lnD b0 e0) (tD T) (gO T e1) (prD (gF T e1)) o4 o5 o6 (.val R :: .val (.int i) :: jS o11 :: jS o12 :: jS o13 :: r)) n = some (.ok (.nx (EX (lnD b0 e0) (tD T) (gO T e1) (prD (gF T e1)) o4 o5 o6 (.val R :: .val (.int i) :: .val d11 :: .val d12 :: .val d13 :: r))), n) := by
  have fa : dFld 2 "against" (gO T e1) = some (AG T) := gD_against _ _ _
  have ix := ag_ix T hi
  unfold agV at ix
  have x := (exs_some g.hT i).2
  have lh := look_tD g.hT.nd x.hm
  have ll := look_tD g.hT.nd x.lm
  obtain ⟨y1, s1, s2⟩ := least_some g hi n
  obtain ⟨y2, s3, s4⟩ := least_all g hi n
  have sd := some_dict g.hT i
  refine ⟨.int (xh T i).s, .int (xl T i).s, tD (Sm T i), ?_⟩
  unfold LL9b LL9b0 LL9b1 LL9b2 EX
  generalize lnD b0 e0 = L at *
  generalize AG T = A at *
  generalize tD T = X at *
  generalize tD (Sm T i) = S at *
  generalize gO T e1 = G at *
  generalize prD (gF T e1) = F at *
  generalize (xh T i).d = D1 at *
  generalize (xl T i).d = D2 at *
  simp_arith [fa, ix, lh, ll, s1, s2, s3, s4, sd]
theorem ll9 {rs : List Int} (hr : ∀ i ∈ rs, i ∈ R19) (hn : rs ≠ []) (r : List Sl) : ∃ d10 d11 d12 d13, LL9 W (EX (lnD b0 e0) (tD T) (gO T e1) (prD (gF T e1)) o4 o5 o6 (.val (.lst (rs.map D.int)) :: .no :: .no :: .no :: .no :: r)) n = some (.ok (.nx (EX (lnD b0 e0) (tD T) (gO T e1) (prD (gF T e1)) o4 o5 o6 (.val (.lst (rs.map D.int)) :: .val d10 :: .val d11 :: .val d12 :: .val d13 :: r))), n) := by
  obtain ⟨ρ', h1, h2⟩ := for_pre (h := D.int) (g := gV 10) (b := LL9b W) (n := n) (xs := rs) (ys := []) (fun ys ρ => ∃ o10 o11 o12 o13, (ys ≠ [] → ∃ d10 d11 d12 d13, o10 = some d10 ∧ o11 = some d11 ∧ o12 = some d12 ∧ o13 = some d13) ∧ ρ = EX (lnD b0 e0) (tD T) (gO T e1) (prD (gF T e1)) o4 o5 o6 (.val (.lst (rs.map D.int)) :: jS o10 :: jS o11 :: jS o12 :: jS o13 :: r)) (fun ys x zs hx ρ hi => by
    obtain ⟨o10, o11, o12, o13, _, rfl⟩ := hi
    obtain ⟨d11, d12, d13, e⟩ := ll9b W g o4 o5 o6 n (b0 := b0) (e0 := e0) (hr x (by rw [← hx]; simp)) (.lst (rs.map D.int)) o11 o12 o13 r
    exact ⟨_, _, rfl, e, some (.int x), some d11, some d12, some d13, fun _ => ⟨_, _, _, _, rfl, rfl, rfl, rfl⟩, rfl⟩) (zs := rs) rfl (ρ := EX (lnD b0 e0) (tD T) (gO T e1) (prD (gF T e1)) o4 o5 o6 (.val (.lst (rs.map D.int)) :: .no :: .no :: .no :: .no :: r)) ⟨none, none, none, none, fun z => absurd rfl z, rfl⟩
  obtain ⟨o10, o11, o12, o13, h3, rfl⟩ := h2
  obtain ⟨d10, d11, d12, d13, rfl, rfl, rfl, rfl⟩ := h3 hn
  refine ⟨d10, d11, d12, d13, ?_⟩
  unfold LL9
  have it : dItems (.lst (rs.map D.int)) = some (rs.map D.int) := rfl
  unfold EX at h1 ⊢
  generalize hB : LL9b W = B at *
  generalize D.lst (rs.map D.int) = R at *
  generalize lnD b0 e0 = L at *
  generalize tD T = X at *
  generalize gO T e1 = G at *
  generalize prD (gF T e1) = F at *
  simp_arith [it]
  rw [h1]
  first | done | rfl
end
end K73
end

section
set_option Elab.async false
set_option linter.all false
set_option autoImplicit false
set_option maxRecDepth 100000
set_option maxHeartbeats 400000

namespace K73
open DL PySem L2 P_k73_whole_grades PyProof.Rows
theorem pr_0 (x : Pr) : dIx (prD x) (.int 0) = some (.int x.1) := (rfl)
theorem pr_1 (x : Pr) : dIx (prD x) (.int 1) = some (.int x.2) := (rfl)
structure Fb (T : List Ms) (e1 : Int) (m : Ms) (A Q : Nat) : Prop where
  hm : m ∈ T
  max : ∀ y ∈ T, vl (dst (nbT T e1) e1 y) ≤ vl (dst (nbT T e1) e1 m) ∧ (y.s < m.s → vl (dst (nbT T e1) e1 y) < vl (dst (nbT T e1) e1 m))
  a : (A : Int) = (dst (nbT T e1) e1 m).1
  q : (Q : Int) = m.q
def fbP (A Q : Nat) : Pr := (((A / Nat.gcd A Q : Nat) : Int), ((Q / Nat.gcd A Q : Nat) : Int))
theorem Fb.Q1 {T : List Ms} {e1 : Int} (g : Gd T e1) {m : Ms} {A Q : Nat} (f : Fb T e1 m A Q) : 1 ≤ Q ∧ Q ≤ 60 := by
  have := (g.hT.ok m f.hm).q1
  have := (g.hT.ok m f.hm).q60
  have := f.q
  omega
theorem fbP_ok {A Q : Nat} (h : 1 ≤ Q ∧ Q ≤ 60) : QOk (fbP A Q) ∧ vl (fbP A Q) = vl ((A : Int), (Q : Int)) := by
  have g0 : 0 < Nat.gcd A Q := Nat.gcd_pos_of_pos_right _ h.1
  have e1 := Nat.mul_div_cancel' (Nat.gcd_dvd_left A Q)
  have e2 := Nat.mul_div_cancel' (Nat.gcd_dvd_right A Q)
  have g2 : Nat.gcd A Q ≤ Q := Nat.le_of_dvd (by omega) (Nat.gcd_dvd_right A Q)
  have k1 : 0 < Q / Nat.gcd A Q := Nat.div_pos g2 g0
  have k2 : Q / Nat.gcd A Q ≤ Q := Nat.div_le_self _ _
  have q1 : QOk (fbP A Q) := ⟨by show (1 : Int) ≤ ((Q / Nat.gcd A Q : Nat) : Int); omega, by show ((Q / Nat.gcd A Q : Nat) : Int) ≤ 60; omega⟩
  have q2 : QOk ((A : Int), (Q : Int)) := ⟨by show (1 : Int) ≤ (Q : Int); omega, by show (Q : Int) ≤ 60; omega⟩
  refine ⟨q1, (same_vl q1 q2).mp ?_⟩
  show ((A / Nat.gcd A Q : Nat) : Int) * (Q : Int) = (A : Int) * ((Q / Nat.gcd A Q : Nat) : Int)
  have : (A / Nat.gcd A Q) * Q = A * (Q / Nat.gcd A Q) := by
    generalize A / Nat.gcd A Q = a at *
    generalize Q / Nat.gcd A Q = q at *
    generalize Nat.gcd A Q = c at *
    rw [← e1, ← e2]
    ac_rfl
  exact_mod_cast this
theorem Fb.val {T : List Ms} {e1 : Int} (g : Gd T e1) {m : Ms} {A Q : Nat} (f : Fb T e1 m A Q) : vl (fbP A Q) = vl (gF T e1) ∧ vl (dst (nbT T e1) e1 m) = vl (gF T e1) := by
  have h := (fbP_ok (A := A) (f.Q1 g)).2
  have e : ((A : Int), (Q : Int)) = dst (nbT T e1) e1 m := Prod.ext f.a f.q
  rw [e] at h
  have := gF_max g f.hm fun y hy => (f.max y hy).1
  rw [h, this]
  exact ⟨rfl, rfl⟩
def REST (R d10 d11 d12 d13 : D) (r : List Sl) : List Sl := .val R :: .val d10 :: .val d11 :: .val d12 :: .val d13 :: r
section
variable (W : Wd) {T : List Ms} {e1 b0 e0 : Int} (g : Gd T e1) (o4 o5 o6 : Option D) (R d10 d11 d12 d13 : D) (n : Int)
include g
theorem ll10 (r : List Sl) : ∃ m A Q, Fb T e1 m A Q ∧ LL10 W (EX (lnD b0 e0) (tD T) (gO T e1) (prD (gF T e1)) o4 o5 o6 (REST R d10 d11 d12 d13 (.no :: r))) n = some (.ok (.nx (EX (lnD b0 e0) (tD T) (gO T e1) (prD (gF T e1)) o4 (some (.int m.s)) o6 (REST R d10 d11 d12 d13 (.val (prD (fbP A Q)) :: r)))), n) := by
  have fl : dFld 2 "line" (gO T e1) = some (lnD (nbT T e1) e1) := gD_line _ _ _
  obtain ⟨m, hm, mx, A, Q, ha, hq, fb⟩ := farby_ok (nbT T e1) e1 g.hT n
  refine ⟨m, A, Q, ⟨hm, mx, ha, hq⟩, ?_⟩
  unfold LL10 EX REST fbP prD
  generalize lnD (nbT T e1) e1 = L1 at *
  generalize lnD b0 e0 = L at *
  generalize tD T = X at *
  generalize gO T e1 = G at *
  generalize D.tup [.int (gF T e1).1, .int (gF T e1).2] = F at *
  show _ = some (Except.ok (Out.nx (.val .scr :: .val .drw :: .val L :: .val X :: jS o4 :: .val (.int m.s) :: jS o6 :: .val G :: .val F :: .val R :: .val d10 :: .val d11 :: .val d12 :: .val d13 :: .val (.tup [.int ((A / Nat.gcd A Q : Nat) : Int), .int ((Q / Nat.gcd A Q : Nat) : Int)]) :: r)), n)
  simp_arith [fl, fb]
theorem ll11 {m : Ms} {A Q : Nat} (f : Fb T e1 m A Q) (r : List Sl) : LL11 W (EX (lnD b0 e0) (tD T) (gO T e1) (prD (gF T e1)) o4 (some (.int m.s)) o6 (REST R d10 d11 d12 d13 (.val (prD (fbP A Q)) :: r))) n = some (.ok (.nx (EX (lnD b0 e0) (tD T) (gO T e1) (prD (gF T e1)) o4 (some (.int m.s)) o6 (REST R d10 d11 d12 d13 (.val (prD (fbP A Q)) :: r)))), n) := by
  have fl : dFld 2 "line" (gO T e1) = some (lnD (nbT T e1) e1) := gD_line _ _ _
  have om := g.hT.ok m f.hm
  have v := f.val g
  have q1 := (fbP_ok (A := A) (f.Q1 g)).1
  have q2 := g.q
  have q3 := (gr_spec (sg_ok om) (nbT T e1) e1).1
  have s1 := (same_vl q1 q2).mpr v.1
  have s2 := (same_vl q3 q2).mpr (by rw [sg_vl om]; exact v.2)
  have lk := look_tD g.hT.nd f.hm
  have fk := lfar_ok (nbT T e1) e1 (sg_ok om) n
  have dp := disp_one m
  have p1 := pr_0 (fbP A Q)
  have p2 := pr_1 (fbP A Q)
  have p3 := pr_0 (gF T e1)
  have p4 := pr_1 (gF T e1)
  have p5 := pr_0 (gr [m] (nbT T e1) e1)
  have p6 := pr_1 (gr [m] (nbT T e1) e1)
  have b1 := q1.1
  have b2 := q1.2
  have b3 := q2.1
  have b4 := q2.2
  have b5 := q3.1
  have b6 := q3.2
  unfold LL11 EX REST
  generalize lnD (nbT T e1) e1 = L1 at *
  generalize lnD b0 e0 = L at *
  generalize tD T = X at *
  generalize tD [m] = X1 at *
  generalize gO T e1 = G at *
  generalize prD (gF T e1) = F at *
  generalize prD (fbP A Q) = P at *
  generalize prD (gr [m] (nbT T e1) e1) = F1 at *
  generalize m.d = Y at *
  have n1 := ne_f s1
  have n2 := ne_f s2
  show LL11 W (.val .scr :: .val .drw :: .val L :: .val X :: jS o4 :: .val (.int m.s) :: jS o6 :: .val G :: .val F :: .val R :: .val d10 :: .val d11 :: .val d12 :: .val d13 :: .val P :: r) n = some (Except.ok (Out.nx (.val .scr :: .val .drw :: .val L :: .val X :: jS o4 :: .val (.int m.s) :: jS o6 :: .val G :: .val F :: .val R :: .val d10 :: .val d11 :: .val d12 :: .val d13 :: .val P :: r)), n)
  unfold LL11
  simp_arith [fl, lk, fk, dp, p1, p2, p3, p4, p5, p6, n1, n2]
end
end K73
end

section
set_option Elab.async false
set_option linter.all false
set_option autoImplicit false
set_option maxRecDepth 100000
set_option maxHeartbeats 400000

namespace K73
open DL PySem L2 P_k73_whole_grades PyProof.Rows
def E20 (L X G F : D) (o4 o5 o6 : Option D) (R d10 d11 d12 d13 P : D) (s15 s16 s17 s18 : Sl) : DL.Env := [.val .scr, .val .drw, .val L, .val X, jS o4, jS o5, jS o6, .val G, .val F, .val R, .val d10, .val d11, .val d12, .val d13, .val P, s15, s16, s17, s18, .no]
theorem bls_f : ∀ ds : List D, (∀ d ∈ ds, d = .bl false) → ∃ ns, dBls ds = some ns ∧ ns.any id = false
  | [], _ => ⟨[], rfl, rfl⟩
  | d :: ds, h => by
    obtain ⟨ns, e1, e2⟩ := bls_f ds fun x hx => h x (List.mem_cons_of_mem _ hx)
    rw [h d List.mem_cons_self]
    refine ⟨false :: ns, ?_, by simpa using e2⟩
    unfold dBls
    rw [e1]
    first | done | rfl
theorem any_f {ds : List D} (h : ∀ d ∈ ds, d = .bl false) : dAny [.lst ds] = some (.bl false) := by
  obtain ⟨ns, e1, e2⟩ := bls_f ds h
  show (match dBls ds with | some ns => some (D.bl (ns.any id)) | none => none) = _
  rw [e1, ← e2]
section
variable (W : Wd) {T : List Ms} {e1 : Int} (g : Gd T e1) (L R d10 d11 d12 d13 : D) (o4 o6 : Option D) (n : Int) {m : Ms} {A Q : Nat} (f : Fb T e1 m A Q)
include g f
theorem ll12 (P : D) : LL12 W (E20 L (tD T) (gO T e1) (prD (gF T e1)) o4 (some (.int m.s)) o6 R d10 d11 d12 d13 P .no .no .no .no) n = some (.ok (.nx (E20 L (tD T) (gO T e1) (prD (gF T e1)) o4 (some (.int m.s)) o6 R d10 d11 d12 d13 P .no .no .no .no)), n) := by
  have fl : dFld 2 "line" (gO T e1) = some (lnD (nbT T e1) e1) := gD_line _ _ _
  have ky : (dKV (tD T)).map (·.1) = some (T.map fun m => D.int m.s) := by
    show some ((T.map Ms.k).map kD) = _
    rw [List.map_map]
    rfl
  have lk := @look_tD T g.hT.nd
  have key : ∀ x ∈ T, x.s < m.s → ∃ z, f__law_far [lnD (nbT T e1) e1, tD [x]] n = some (.ok z, n) ∧ f__law_less [z, prD (gF T e1)] n = some (.ok (.bl true), n) := by
    intro x hx hl
    have ox := g.hT.ok x hx
    refine ⟨_, lfar_ok (nbT T e1) e1 (sg_ok ox) n, ?_⟩
    have q3 := (gr_spec (sg_ok ox) (nbT T e1) e1).1
    rw [lless_ok q3 g.q n]
    have := (f.max x hx).2 hl
    rw [(f.val g).2] at this
    rw [decide_eq_true ((less_vl q3 g.q).mpr (by rw [sg_vl ox]; exact this))]
  have dp := disp_one
  have hlen := g.hT.len
  unfold LL12 E20
  generalize lnD (nbT T e1) e1 = L1 at *
  generalize tD T = X at *
  generalize gO T e1 = G at *
  generalize prD (gF T e1) = F at *
  show LL12 W [.val .scr, .val .drw, .val L, .val X, jS o4, .val (.int m.s), jS o6, .val G, .val F, .val R, .val d10, .val d11, .val d12, .val d13, .val P, .no, .no, .no, .no, .no] n = some (.ok (.nx [.val .scr, .val .drw, .val L, .val X, jS o4, .val (.int m.s), jS o6, .val G, .val F, .val R, .val d10, .val d11, .val d12, .val d13, .val P, .no, .no, .no, .no, .no]), n)
  unfold LL12
  simp_arith [ky]
  rw [comp_flt (fun x : Ms => if x.s < m.s then some (D.bl false) else none) fun x hx => by
    by_cases c : x.s < m.s
    · rw [if_pos c]
      obtain ⟨z, k1, k2⟩ := key x hx c
      have lx := lk hx
      have dx := dp x
      generalize tD [x] = X1 at *
      generalize x.d = Y at *
      simp_arith [lx, dx, k1, k2, fl]
    · rw [if_neg c]
      simp_arith []]
  have an : dAny [.lst (T.filterMap fun x : Ms => if x.s < m.s then some (D.bl false) else none)] = some (.bl false) := any_f fun d hd => by
    obtain ⟨x, hx, e⟩ := List.mem_filterMap.mp hd
    split at e
    · cases e; rfl
    · cases e
  have ll : (T.filterMap fun x : Ms => if x.s < m.s then some (D.bl false) else none).length ≤ 9 := Nat.le_trans (List.length_filterMap_le _ _) hlen
  generalize (T.filterMap fun x : Ms => if x.s < m.s then some (D.bl false) else none) = LS at *
  simp_arith [an]
theorem ll13 : LL13 W (E20 L (tD T) (gO T e1) (prD (gF T e1)) o4 (some (.int m.s)) o6 R d10 d11 d12 d13 (prD (fbP A Q)) .no .no .no .no) n = some (.ok (.nx (E20 L (tD T) (gO T e1) (prD (gF T e1)) o4 (some (.int m.s)) o6 R d10 (.int (Q / Nat.gcd A Q : Nat)) d12 d13 (prD (fbP A Q)) (.val (.int (A / Nat.gcd A Q : Nat))) .no .no .no)), n) := by
  have p1 : dIx (prD (fbP A Q)) (.int 0) = some (.int (A / Nat.gcd A Q : Nat)) := pr_0 (fbP A Q)
  have p2 : dIx (prD (fbP A Q)) (.int 1) = some (.int (Q / Nat.gcd A Q : Nat)) := pr_1 (fbP A Q)
  unfold LL13 E20
  generalize tD T = X at *
  generalize gO T e1 = G at *
  generalize prD (gF T e1) = F at *
  generalize prD (fbP A Q) = P at *
  generalize A / Nat.gcd A Q = a at *
  generalize Q / Nat.gcd A Q = q at *
  simp_arith [p1, p2]
theorem ll14 (P : D) : ∃ d4, LL14 W (E20 L (tD T) (gO T e1) (prD (gF T e1)) o4 (some (.int m.s)) o6 R d10 (.int (Q / Nat.gcd A Q : Nat)) d12 d13 P (.val (.int (A / Nat.gcd A Q : Nat))) .no .no .no) n = some (.ok (.nx (E20 L (tD T) (gO T e1) (prD (gF T e1)) (some d4) (some (.int m.s)) o6 R d10 (.int 1) d12 d13 P (.val (.int 0)) .no .no .no)), n) := by
  have hb : A / Nat.gcd A Q < 2 ^ 15 := by
    have ha : A = ((nbT T e1 + e1 * m.s) * m.q - m.p).natAbs := by
      have : (A : Int) = (((nbT T e1 + e1 * m.s) * m.q - m.p).natAbs : Int) := f.a
      omega
    have := far_bound (g.hT.ok m f.hm) (nbT_in T e1) g.r
    rw [← ha] at this
    exact Nat.lt_of_le_of_lt (Nat.div_le_self _ _) this
  have hg : Nat.gcd (Q / Nat.gcd A Q) (A / Nat.gcd A Q) = 1 := red_gcd (by have := f.Q1 g; omega)
  generalize A / Nat.gcd A Q = a at *
  generalize Q / Nat.gcd A Q = q at *
  obtain ⟨ρ', h1, _, o4', h2, h3⟩ := for_fold (h := fun i : Nat => D.int i) (g := gV 4) (b := LL14b W) (n := n) (xs := List.range 60) (fun (s : Bool × (Nat × Nat)) ρ => True ∧ ∃ o4, (s.1 = true → ∃ d, o4 = some d) ∧ ρ = E20 L (tD T) (gO T e1) (prD (gF T e1)) o4 (some (.int m.s)) o6 R d10 (.int s.2.1) d12 d13 P (.val (.int s.2.2)) .no .no .no) (fun s _ => (true, stE s.2)) (fun x hx s ρ hs => by
    obtain ⟨_, o4, _, rfl⟩ := hs
    obtain ⟨b, x1, y1⟩ := s
    refine ⟨_, E20 L (tD T) (gO T e1) (prD (gF T e1)) (some (.int x)) (some (.int m.s)) o6 R d10 (.int (stE (x1, y1)).1) d12 d13 P (.val (.int (stE (x1, y1)).2)) .no .no .no, rfl, ?_, trivial, some (.int x), fun _ => ⟨_, rfl⟩, rfl⟩
    unfold stE E20
    generalize tD T = X at *
    generalize gO T e1 = G at *
    generalize prD (gF T e1) = F at *
    show LL14b W [.val .scr, .val .drw, .val L, .val X, .val (.int x), .val (.int m.s), jS o6, .val G, .val F, .val R, .val d10, .val (.int (x1 : Int)), .val d12, .val d13, .val P, .val (.int (y1 : Int)), .no, .no, .no, .no] n = _
    by_cases z : y1 = 0
    · subst z
      unfold LL14b LL14b0
      simp_arith []
      rfl
    · have e : (if y1 = 0 then (x1, y1) else (y1, x1 % y1)) = (y1, x1 % y1) := if_neg z
      show _ = some (Except.ok (Out.nx [.val .scr, .val .drw, .val L, .val X, .val (.int x), .val (.int m.s), jS o6, .val G, .val F, .val R, .val d10, .val (.int (((if y1 = 0 then (x1, y1) else (y1, x1 % y1)).1 : Nat) : Int)), .val d12, .val d13, .val P, .val (.int (((if y1 = 0 then (x1, y1) else (y1, x1 % y1)).2 : Nat) : Int)), .no, .no, .no, .no]), n)
      rw [e]
      have md := dMod_int (i := (x1 : Int)) (j := (y1 : Int)) (by omega)
      have di : dIntA [.int (x1 : Int)] = some (.int (x1 : Int)) := rfl
      have cm : ((x1 % y1 : Nat) : Int) = (x1 : Int) % (y1 : Int) := rfl
      show _ = some (Except.ok (Out.nx [.val .scr, .val .drw, .val L, .val X, .val (.int x), .val (.int m.s), jS o6, .val G, .val F, .val R, .val d10, .val (.int (y1 : Int)), .val d12, .val d13, .val P, .val (.int ((x1 % y1 : Nat) : Int)), .no, .no, .no, .no]), n)
      rw [cm]
      unfold LL14b LL14b0
      simp_arith [md, di]) (s := (false, (q, a))) (ρ := E20 L (tD T) (gO T e1) (prD (gF T e1)) o4 (some (.int m.s)) o6 R d10 (.int (q : Nat)) d12 d13 P (.val (.int (a : Nat))) .no .no .no) ⟨trivial, o4, fun z => absurd (show false = true from z) (by decide), rfl⟩
  have fs : ∀ (xs : List Nat) (b : Bool) (s : Nat × Nat), (xs.foldl (fun (s : Bool × (Nat × Nat)) _ => (true, stE s.2)) (b, s)).2 = itE xs.length s := by
    intro xs
    induction xs with
    | nil => intro b s; rfl
    | cons x r ih => intro b s; exact ih true (stE s)
  have fb : ((List.range 60).foldl (fun (s : Bool × (Nat × Nat)) _ => (true, stE s.2)) (false, (q, a))).1 = true := by
    rw [show List.range 60 = List.range 59 ++ [59] from rfl, List.foldl_append]
    rfl
  have ft := fs (List.range 60) false (q, a)
  rw [List.length_range, itE_gcd 15 60 q a hb (by omega), hg] at ft
  generalize (List.range 60).foldl (fun (s : Bool × (Nat × Nat)) _ => (true, stE s.2)) (false, (q, a)) = S at *
  obtain ⟨b, x1, y1⟩ := S
  cases ft
  obtain ⟨d4, rfl⟩ := h2 fb
  refine ⟨d4, ?_⟩
  have rg : dRng1 [.int 60] = some ((List.range 60).map fun i : Nat => D.int i) := rng1_nat (k := 60) (by omega)
  unfold LL14
  subst h3
  unfold E20 at h1 ⊢
  generalize LL14b W = B at *
  generalize tD T = X at *
  generalize gO T e1 = G at *
  generalize prD (gF T e1) = F at *
  have nn : ∀ k : Nat, (List.range k).map (fun i : Nat => D.int i) = (List.range k).map (fun i : Nat => D.int i) := fun _ => rfl
  generalize hL : (List.range 60).map (fun i : Nat => D.int i) = RG at *
  simp_arith [↓rg]
  rw [h1]
  first | done | rfl
end
end K73
end

section
set_option Elab.async false
set_option linter.all false
set_option autoImplicit false
set_option maxRecDepth 100000
set_option maxHeartbeats 400000

namespace K73
open DL PySem L2 P_k73_whole_grades PyProof.Rows
section
variable (W : Wd) {T : List Ms} {e1 b0 e0 : Int} (g : Gd T e1) (o4 o5 o6 : Option D) (n : Int)
include g
theorem ll5 (h : f_grade [tD T] n = some (.ok (gO T e1), n)) : LL5 W (EW b0 e0 (.val (tD T)) o4 o5 o6) n = some (.ok (.nx (.val .scr :: .val .drw :: .val (lnD b0 e0) :: .val (tD T) :: jS o4 :: jS o5 :: jS o6 :: .val (gO T e1) :: List.replicate 12 .no)), n) := by
  unfold LL5 EW
  generalize lnD b0 e0 = L at *
  generalize tD T = X at *
  generalize gO T e1 = G at *
  simp_arith [h]
theorem ll6 : LL6 W (.val .scr :: .val .drw :: .val (lnD b0 e0) :: .val (tD T) :: jS o4 :: jS o5 :: jS o6 :: .val (gO T e1) :: List.replicate 12 .no) n = some (.ok (.nx (EX (lnD b0 e0) (tD T) (gO T e1) (prD (gF T e1)) o4 o5 o6 (List.replicate 11 .no))), n) := by
  have fl : dFld 2 "line" (gO T e1) = some (lnD (nbT T e1) e1) := gD_line _ _ _
  have fk : f__law_far [lnD (nbT T e1) e1, tD T] n = some (.ok (prD (gF T e1)), n) := lfar_ok (nbT T e1) e1 g.hT.ok n
  unfold LL6 EX
  generalize lnD (nbT T e1) e1 = L1 at *
  generalize lnD b0 e0 = L at *
  generalize tD T = X at *
  generalize gO T e1 = G at *
  generalize prD (gF T e1) = F at *
  simp_arith [fl, fk]
end
section
variable (W : Wd) {T : List Ms} {e1 : Int} (g : Gd T e1) (L R d4 d5 d10 d12 d13 : D) (o6 : Option D) (n : Int)
include g
theorem ll15 {m : Ms} {A Q : Nat} (f : Fb T e1 m A Q) (X G F : D) : LL15 W (E20 L X G F (some d4) (some d5) o6 R d10 (.int 1) d12 d13 (prD (fbP A Q)) (.val (.int 0)) .no .no .no) n = some (.ok (.nx (E20 L X G F (some d4) (some d5) o6 R d10 (.int 1) d12 d13 (prD (fbP A Q)) (.val (.int 0)) .no .no .no)), n) := by
  have p2 := pr_1 (fbP A Q)
  have q := (fbP_ok (A := A) (f.Q1 g)).1.1
  unfold LL15 E20
  generalize prD (fbP A Q) = P at *
  simp_arith [p2]
def wsB (T : List Ms) (e1 : Int) : Int := if nbT T e1 < 90 then nbT T e1 + 7 else nbT T e1 - 7
omit g in
theorem wsB_in (T : List Ms) (e1 : Int) : -99 ≤ wsB T e1 ∧ wsB T e1 ≤ 99 := by
  have := nbT_in T e1
  unfold wsB
  split <;> omega
omit g in
theorem ll16 (X F d11 d15 P : D) : LL16 W (E20 L X (gO T e1) F (some d4) (some d5) o6 R d10 d11 d12 d13 P (.val d15) .no .no .no) n = some (.ok (.nx (E20 L X (gO T e1) F (some d4) (some d5) o6 R d10 d11 d12 d13 P (.val d15) (.val (lnD (wsB T e1) e1)) .no .no)), n) := by
  have fl : dFld 2 "line" (gO T e1) = some (.tup [.int (nbT T e1), .int e1]) := gD_line _ _ _
  unfold LL16 E20 wsB lnD
  generalize gO T e1 = G at *
  by_cases c : nbT T e1 < 90
  · rw [if_pos c]
    simp_arith [fl]
  · rw [if_neg c]
    simp_arith [fl]
theorem ll17 (d11 d15 P : D) : LL17 W (E20 L (tD T) (gO T e1) (prD (gF T e1)) (some d4) (some d5) o6 R d10 d11 d12 d13 P (.val d15) (.val (lnD (wsB T e1) e1)) .no .no) n = some (.ok (.nx (E20 L (tD T) (gO T e1) (prD (gF T e1)) (some d4) (some d5) o6 R d10 d11 d12 d13 P (.val d15) (.val (lnD (wsB T e1) e1)) .no .no)), n) := by
  have fa : dFld 2 "against" (gO T e1) = some (AG T) := gD_against _ _ _
  have io : f_Grade___init__ [lnD (wsB T e1) e1, AG T] n = some (.ok (gD (wsB T e1) e1 (AG T)), n) := init_ok _ _ _ _ _
  have mk : makeK 2 (gD (wsB T e1) e1 (AG T)) = M.pure (gD (wsB T e1) e1 (AG T)) := makeK_obj _ _ _
  have is : isObj 2 "shows" (gD (wsB T e1) e1 (AG T)) = true := is_shows _ _ _
  have sh := shows_ok g.hT (wsB_in T e1) g.r n
  rw [all_mG g] at sh
  have fk := lfar_ok (wsB T e1) e1 g.hT.ok n
  have q2 := (gr_spec g.hT.ok (wsB T e1) e1).1
  have ls := lless_ok g.q q2 n
  have lv := less_vl g.q q2
  rw [g.val] at lv
  have ed : decide ((gF T e1).1 * (gr T (wsB T e1) e1).2 < (gr T (wsB T e1) e1).1 * (gF T e1).2) = decide (mG T e1 < vl (gr T (wsB T e1) e1)) := by
    by_cases c : mG T e1 < vl (gr T (wsB T e1) e1)
    · rw [decide_eq_true c, decide_eq_true (lv.mpr c)]
    · rw [decide_eq_false c, decide_eq_false fun z => c (lv.mp z)]
  rw [ed] at ls
  have nb := ne_bl (!decide (mG T e1 < vl (gr T (wsB T e1) e1)))
  unfold LL17 E20
  generalize decide (mG T e1 < vl (gr T (wsB T e1) e1)) = BB at *
  generalize gD (wsB T e1) e1 (AG T) = G2 at *
  generalize lnD (wsB T e1) e1 = L2 at *
  generalize prD (gr T (wsB T e1) e1) = F2 at *
  generalize AG T = A at *
  generalize tD T = X at *
  generalize gO T e1 = G at *
  generalize prD (gF T e1) = F at *
  simp_arith [fa, io, mk, is, sh, fk, ls, nb]
omit g in
theorem ll18 (X G F d11 P : D) (s15 s16 : Sl) : ∃ r ∈ R19, LL18 W (E20 L X G F (some d4) (some d5) o6 R d10 d11 d12 d13 P s15 s16 .no .no) n = some (.ok (.nx (E20 L X G F (some d4) (some d5) o6 R (.int r) d11 d12 d13 P s15 s16 .no .no)), n + 1) := by
  obtain ⟨v0, a0, c0, t0⟩ := take_ok W 19 n (by decide)
  replace t0 : f__law_take W [.drw, .int 19] n = _ := t0
  refine ⟨v0 - 9, mem_R19.mpr (by omega), ?_⟩
  unfold LL18 E20
  simp_arith [t0]
def R18 (r : Int) : List Int := R19.filter fun i => decide (i ≠ r)
omit g in
theorem R18_len : ∀ r ∈ R19, (R18 r).length = 18 := by decide +kernel
omit g in
theorem R18_nd (r : Int) : ((R18 r).map (Sum.inl : Int → Key)).Nodup := R19_nd.sublist ((List.filter_sublist (l := R19)).map _)
def AH (T : List Ms) (r : Int) : D := .dic ((R18 r).map Sum.inl) ((R18 r).map (agV T))
omit g in
theorem dict_AH (r : Int) : dDictA [.lst ((R18 r).map fun i => D.tup [.int i, agV T i])] = some (AH T r) := by
  have h := pairsD_map (f := (Sum.inl : Int → Key)) (g := agV T) (w := R18 r) fun _ _ => trivial
  show (pairsD ((R18 r).map fun i => D.tup [kD (Sum.inl i), agV T i])).map mkDic = _
  rw [h]
  show some (mkDic _) = _
  unfold mkDic
  rw [putAll_nd (by rw [List.nil_append, List.map_map]; exact R18_nd r), List.nil_append, List.nil_append, List.map_map, List.map_map]
  first | done | rfl
omit g in
theorem items_AG : (dKV (AG T)).map (fun q => prsD q.1 q.2) = some (R19.map fun i => D.tup [.int i, agV T i]) := by kernel_rfl
omit g in
theorem ll19 (X F d11 P : D) (d15 d16 : D) {r : Int} (hr : r ∈ R19) : LL19 W (E20 L X (gO T e1) F (some d4) (some d5) o6 R (.int r) d11 d12 d13 P (.val d15) (.val d16) .no .no) n = some (.ok (.nx (E20 L X (gO T e1) F (some d4) (some d5) o6 R (.int r) d11 d12 d13 P (.val d15) (.val d16) (.val (AH T r)) .no)), n) := by
  have fa : dFld 2 "against" (gO T e1) = some (AG T) := gD_against _ _ _
  have it := @items_AG T
  have dh := @dict_AH T r
  have l18 := R18_len r hr
  unfold LL19 E20
  generalize gO T e1 = G at *
  generalize AG T = A at *
  generalize AH T r = H at *
  simp_arith [fa, it]
  rw [comp_flt (fun i : Int => if decide (i ≠ r) = true then some (D.tup [.int i, agV T i]) else none) fun i hi => by
    generalize agV T i = V at *
    by_cases c : i = r
    · have c2 : decide (i ≠ r) = false := by simp [c]
      rw [c2]
      simp_arith []
      first | done | rfl
    · have c2 : decide (i ≠ r) = true := by simp [c]
      rw [c2]
      simp_arith []
      first | done | rfl, filterMap_if]
  have e : R19.filter (fun i => decide (i ≠ r)) = R18 r := rfl
  rw [e]
  have ml : mkLst ((R18 r).map fun i => D.tup [.int i, agV T i]) = some (.lst ((R18 r).map fun i => D.tup [.int i, agV T i])) := mkLst_of (by rw [List.length_map, l18]; decide)
  generalize ((R18 r).map fun i => D.tup [.int i, agV T i]) = LS at *
  simp_arith [ml, dh]
theorem shows_no {b e : Int} (h1 : -99 ≤ b ∧ b ≤ 99) (h2 : -9 ≤ e ∧ e ≤ 9) {r : Int} (hr : r ∈ R19) : f_Grade_shows [gD b e (AH T r), tD T] n = some (.ok (.bl false), n) := by
  have w := wanted_ok g.hT n
  have fl := gD_line b e (AH T r)
  have fa := gD_against b e (AH T r)
  have il := line_ok h1 h2 n
  have la : dLenA [AH T r] = some (.int 18) := by
    show some (D.int (((R18 r).map (Sum.inl : Int → Key)).length : Nat)) = _
    rw [List.length_map, R18_len r hr]
    rfl
  have nine : (9 : Int) + 1 = 10 := rfl
  unfold f_Grade_shows g_Grade_shows
  generalize gD b e (AH T r) = O at *
  generalize AH T r = A at *
  generalize lnD b e = L at *
  generalize tD T = X at *
  simp_arith [w, fl, fa, il, la, len19, nine]
theorem ll20 (F d11 P : D) (d15 d16 : D) {r : Int} (hr : r ∈ R19) : LL20 W (E20 L (tD T) (gO T e1) F (some d4) (some d5) o6 R (.int r) d11 d12 d13 P (.val d15) (.val d16) (.val (AH T r)) .no) n = some (.ok (.nx (E20 L (tD T) (gO T e1) F (some d4) (some d5) o6 R (.int r) d11 d12 d13 P (.val d15) (.val d16) (.val (AH T r)) .no)), n) := by
  have fl : dFld 2 "line" (gO T e1) = some (lnD (nbT T e1) e1) := gD_line _ _ _
  have io : f_Grade___init__ [lnD (nbT T e1) e1, AH T r] n = some (.ok (gD (nbT T e1) e1 (AH T r)), n) := init_ok _ _ _ _ _
  have mk : makeK 2 (gD (nbT T e1) e1 (AH T r)) = M.pure (gD (nbT T e1) e1 (AH T r)) := makeK_obj _ _ _
  have is : isObj 2 "shows" (gD (nbT T e1) e1 (AH T r)) = true := is_shows _ _ _
  have sh := shows_no g n (nbT_in T e1) g.r hr
  unfold LL20 E20
  generalize gD (nbT T e1) e1 (AH T r) = G2 at *
  generalize lnD (nbT T e1) e1 = L2 at *
  generalize AH T r = A at *
  generalize tD T = X at *
  generalize gO T e1 = G at *
  simp_arith [fl, io, mk, is, sh]
end
theorem ll1 (W : Wd) {b0 e0 : Int} (n : Int) : LL1 W (.val .scr :: .val .drw :: .val (lnD b0 e0) :: List.replicate 17 .no) n = some (.ok (.nx (EW b0 e0 (.own (tD [])) none none none)), n) := rfl
theorem good (W : Wd) : ∃ n', g_law W (.val .scr :: .val .drw :: List.replicate (N_law.length - 2) Sl.no) 0 = some (.ok (.ret (.bl true)), n') := by
  obtain ⟨b0, e0, hb, he, s0⟩ := ll0 W 0
  obtain ⟨T1, o4, o5, o6, n2, w1, w2, s2⟩ := ll2 W hb he (0 + 1 + 1)
  obtain ⟨T, n3, hT, s3⟩ := ll3 W w1 w2 (b0 := b0) (e0 := e0) o4 o5 o6 n2
  obtain ⟨e1, r, le, gk⟩ := grade_ok hT n3
  have g : Gd T e1 := ⟨hT, r, le⟩
  obtain ⟨r2, r3, h2, h3, s8⟩ := ll8 W g (b0 := b0) o4 o5 o6 n3 he (List.replicate 10 .no)
  have hr : ∀ i ∈ [e1, e0, r2, r3], i ∈ R19 := by
    intro i hi
    simp only [List.mem_cons, List.not_mem_nil, or_false] at hi
    rcases hi with rfl | rfl | rfl | rfl
    · exact mem_R19.mpr r
    · exact mem_R19.mpr (by omega)
    · exact h2
    · exact h3
  obtain ⟨d10, d11, d12, d13, s9⟩ := ll9 W g (b0 := b0) (e0 := e0) o4 o5 o6 (n3 + 1 + 1) hr (by simp) (List.replicate 6 .no)
  obtain ⟨m, A, Q, f, s10⟩ := ll10 W g (b0 := b0) (e0 := e0) o4 o5 o6 (.lst ([e1, e0, r2, r3].map D.int)) d10 d11 d12 d13 (n3 + 1 + 1) (List.replicate 5 .no)
  obtain ⟨d4, s14⟩ := ll14 W g (lnD b0 e0) (.lst ([e1, e0, r2, r3].map D.int)) d10 d12 d13 o4 o6 (n3 + 1 + 1) f (prD (fbP A Q))
  obtain ⟨r5, h5, s18⟩ := ll18 W (lnD b0 e0) (.lst ([e1, e0, r2, r3].map D.int)) d4 (.int m.s) d10 d12 d13 o6 (n3 + 1 + 1) (tD T) (gO T e1) (prD (gF T e1)) (.int 1) (prD (fbP A Q)) (.val (.int 0)) (.val (lnD (wsB T e1) e1))
  obtain ⟨d18, s21⟩ := ll21 W (lnD b0 e0) (tD T) d4 (.int m.s) o6 (gO T e1) (prD (gF T e1)) (.lst ([e1, e0, r2, r3].map D.int)) (.int r5) (.int 1) d12 d13 (prD (fbP A Q)) (.int 0) (lnD (wsB T e1) e1) (AH T r5) (n3 + 1 + 1 + 1)
  refine ⟨n3 + 1 + 1 + 1, ?_⟩
  rw [LL_eq]
  unfold LL
  refine sq s0 ?_
  refine sq (ll1 W _) ?_
  refine sq s2 ?_
  refine sq s3 ?_
  refine sq (ll4 W T o4 o5 o6 n3) ?_
  refine sq (ll5 W g o4 o5 o6 n3 gk) ?_
  refine sq (ll6 W g o4 o5 o6 n3) ?_
  refine sq (ll7 W g o4 o5 o6 _ n3) ?_
  refine sq s8 ?_
  refine sq s9 ?_
  refine sq s10 ?_
  refine sq (ll11 W g o4 o6 _ d10 d11 d12 d13 _ f _) ?_
  refine sq (ll12 W g (lnD b0 e0) _ d10 d11 d12 d13 o4 o6 _ f (prD (fbP A Q))) ?_
  refine sq (ll13 W g (lnD b0 e0) _ d10 d11 d12 d13 o4 o6 _ f) ?_
  refine sq s14 ?_
  refine sq (ll15 W g _ _ _ _ _ _ _ _ _ f _ _ _) ?_
  refine sq (ll16 W _ _ _ _ _ _ _ _ _ _ _ _ _ _) ?_
  refine sq (ll17 W g _ _ _ _ _ _ _ _ _ _ _ _) ?_
  refine sq s18 ?_
  refine sq (ll19 W _ _ _ _ _ _ _ _ _ _ _ _ _ _ h5) ?_
  refine sq (ll20 W g _ _ _ _ _ _ _ _ _ _ _ _ _ h5) ?_
  refine sq s21 ?_
  rfl
end K73
end

section
set_option Elab.async false
set_option linter.all false
set_option autoImplicit false
set_option maxRecDepth 100000
set_option maxHeartbeats 0
/-! printed by gen.py -/
namespace P_k73_whole_grades
open PySem PySem.Spec L2 DL
open PyProof.Rows (envOfC)
theorem all_mk {l : PySem.W.OpenLaw} {w : World} {K : PySem.W.Frag} {h : Heap} {mg : Str → Option Value} {fa : Addr} (X : K.In h) (G : h.Ns mainGlobals mg) (hfa : mg "law" = some (.ref fa))
    {C0 : Addr}
    {C1 : Addr}
    {C2 : Addr}
    {t_MOST_BASE : Tok}
    {t_MOST_RISE : Tok}
    {t_MOST_SIZE : Tok}
    {t_MOST_WANTED : Tok}
    {a_Grade___init__ : Addr} {od_Grade___init__ an_Grade___init__ : Option Addr} {sl_Grade___init__ : Array (Option Value)} {oc_Grade___init__ kV_Grade___init__ dc_Grade___init__ pm_Grade___init__ cd_Grade___init__ ct_Grade___init__ : Value}
    {a_is_number : Addr} {od_is_number an_is_number : Option Addr} {sl_is_number : Array (Option Value)} {oc_is_number kV_is_number dc_is_number pm_is_number cd_is_number ct_is_number : Value}
    {a_are_sizes : Addr} {od_are_sizes an_are_sizes : Option Addr} {sl_are_sizes : Array (Option Value)} {oc_are_sizes kV_are_sizes dc_are_sizes pm_are_sizes cd_are_sizes ct_are_sizes : Value}
    {a_is_fraction : Addr} {od_is_fraction an_is_fraction : Option Addr} {sl_is_fraction : Array (Option Value)} {oc_is_fraction kV_is_fraction dc_is_fraction pm_is_fraction cd_is_fraction ct_is_fraction : Value}
    {a_check_wanted : Addr} {od_check_wanted an_check_wanted : Option Addr} {sl_check_wanted : Array (Option Value)} {oc_check_wanted kV_check_wanted dc_check_wanted pm_check_wanted cd_check_wanted ct_check_wanted : Value}
    {a_worth : Addr} {od_worth an_worth : Option Addr} {sl_worth : Array (Option Value)} {oc_worth kV_worth dc_worth pm_worth cd_worth ct_worth : Value}
    {a_distance : Addr} {od_distance an_distance : Option Addr} {sl_distance : Array (Option Value)} {oc_distance kV_distance dc_distance pm_distance cd_distance ct_distance : Value}
    {a_is_less : Addr} {od_is_less an_is_less : Option Addr} {sl_is_less : Array (Option Value)} {oc_is_less kV_is_less dc_is_less pm_is_less cd_is_less ct_is_less : Value}
    {a_greatest : Addr} {od_greatest an_greatest : Option Addr} {sl_greatest : Array (Option Value)} {oc_greatest kV_greatest dc_greatest pm_greatest cd_greatest ct_greatest : Value}
    {a_is_line : Addr} {od_is_line an_is_line : Option Addr} {sl_is_line : Array (Option Value)} {oc_is_line kV_is_line dc_is_line pm_is_line cd_is_line ct_is_line : Value}
    {a_extremes : Addr} {od_extremes an_extremes : Option Addr} {sl_extremes : Array (Option Value)} {oc_extremes kV_extremes dc_extremes pm_extremes cd_extremes ct_extremes : Value}
    {a_rest_of : Addr} {od_rest_of an_rest_of : Option Addr} {sl_rest_of : Array (Option Value)} {oc_rest_of kV_rest_of dc_rest_of pm_rest_of cd_rest_of ct_rest_of : Value}
    {a_nearest_base : Addr} {od_nearest_base an_nearest_base : Option Addr} {sl_nearest_base : Array (Option Value)} {oc_nearest_base kV_nearest_base dc_nearest_base pm_nearest_base cd_nearest_base ct_nearest_base : Value}
    {a_Grade_shows : Addr} {od_Grade_shows an_Grade_shows : Option Addr} {sl_Grade_shows : Array (Option Value)} {oc_Grade_shows kV_Grade_shows dc_Grade_shows pm_Grade_shows cd_Grade_shows ct_Grade_shows : Value}
    {a__law_far : Addr} {od__law_far an__law_far : Option Addr} {sl__law_far : Array (Option Value)} {oc__law_far kV__law_far dc__law_far pm__law_far cd__law_far ct__law_far : Value}
    {a__law_less : Addr} {od__law_less an__law_less : Option Addr} {sl__law_less : Array (Option Value)} {oc__law_less kV__law_less dc__law_less pm__law_less cd__law_less ct__law_less : Value}
    {a__law_least : Addr} {od__law_least an__law_least : Option Addr} {sl__law_least : Array (Option Value)} {oc__law_least kV__law_least dc__law_least pm__law_least cd__law_least ct__law_least : Value}
    {a__law_number : Addr} {od__law_number an__law_number : Option Addr} {sl__law_number : Array (Option Value)} {oc__law_number kV__law_number dc__law_number pm__law_number cd__law_number ct__law_number : Value}
    {a__law_take : Addr} {od__law_take an__law_take : Option Addr} {sl__law_take : Array (Option Value)} {oc__law_take kV__law_take dc__law_take pm__law_take cd__law_take ct__law_take : Value}
    {a_far_by : Addr} {od_far_by an_far_by : Option Addr} {sl_far_by : Array (Option Value)} {oc_far_by kV_far_by dc_far_by pm_far_by cd_far_by ct_far_by : Value}
    {a_grade : Addr} {od_grade an_grade : Option Addr} {sl_grade : Array (Option Value)} {oc_grade kV_grade dc_grade pm_grade cd_grade ct_grade : Value}
    {a_law : Addr} {od_law an_law : Option Addr} {sl_law : Array (Option Value)} {oc_law kV_law dc_law pm_law cd_law ct_law : Value}
    (aC0 : PySem.W.nsIn K mainGlobals "StitchError" = some (some (.ref C0)))
    (aC1 : PySem.W.nsIn K mainGlobals "BadTable" = some (some (.ref C1)))
    (aC2 : PySem.W.nsIn K mainGlobals "Grade" = some (some (.ref C2)))
    (xb1 : PySem.W.excIn K C1 [.type "ValueError", .type "Exception", .type "BaseException", .type "object"] "ValueError.__new__" = true)
    (kc1 : PySem.W.keepIn K (.ref C1) = true)
    (sb1 : PySem.W.subIn K (.ref C1) (.type "BaseException") = some true)
    (ty1 : PySem.W.typeIn K (.ref C1) = some (.type "type"))
    (hd1 : PySem.W.hasDictIn K C1 = true)
    (se1_1 : PySem.W.subIn K (.ref C1) (.ref C1) = some true)
    (pg2 : PySem.W.plainGet K C2 Str.empty = true)
    (hd2 : PySem.W.hasDictIn K C2 = true)
    (po2 : PySem.W.plainOver K C2 = true)
    (sa2 : PySem.W.findIn K (.ref C2) "__setattr__" = some (some (.builtin "object.__setattr__")))
    (mk2 : PySem.W.makesIn K C2 = true)
    (kc2 : PySem.W.keepIn K (.ref C2) = true)
    (n2_against : PySem.W.findIn K (.ref C2) "against" = some none)
    (n2_line : PySem.W.findIn K (.ref C2) "line" = some none)
    (b_abs : PySem.W.nsIn K mainGlobals "abs" = some none)
    (b_all : PySem.W.nsIn K mainGlobals "all" = some none)
    (b_any : PySem.W.nsIn K mainGlobals "any" = some none)
    (b_bool : PySem.W.nsIn K mainGlobals "bool" = some none)
    (b_dict : PySem.W.nsIn K mainGlobals "dict" = some none)
    (b_int : PySem.W.nsIn K mainGlobals "int" = some none)
    (b_isinstance : PySem.W.nsIn K mainGlobals "isinstance" = some none)
    (b_len : PySem.W.nsIn K mainGlobals "len" = some none)
    (b_list : PySem.W.nsIn K mainGlobals "list" = some none)
    (b_max : PySem.W.nsIn K mainGlobals "max" = some none)
    (b_min : PySem.W.nsIn K mainGlobals "min" = some none)
    (b_range : PySem.W.nsIn K mainGlobals "range" = some none)
    (b_sorted : PySem.W.nsIn K mainGlobals "sorted" = some none)
    (b_tuple : PySem.W.nsIn K mainGlobals "tuple" = some none)
    (c_MOST_BASE : PySem.W.nsIn K mainGlobals "MOST_BASE" = some (some (.int 99 t_MOST_BASE)))
    (c_MOST_RISE : PySem.W.nsIn K mainGlobals "MOST_RISE" = some (some (.int 9 t_MOST_RISE)))
    (c_MOST_SIZE : PySem.W.nsIn K mainGlobals "MOST_SIZE" = some (some (.int 1000 t_MOST_SIZE)))
    (c_MOST_WANTED : PySem.W.nsIn K mainGlobals "MOST_WANTED" = some (some (.int 10000 t_MOST_WANTED)))
    (x_Grade___init__ : PySem.W.findIn K (.ref C2) "__init__" = some (some (.ref a_Grade___init__))) (i_Grade___init__ : PySem.W.isFn K (.ref a_Grade___init__) = true)
    (l_Grade___init__ : K.lookup a_Grade___init__ = some ⟨oc_Grade___init__, od_Grade___init__, .func (PySem.W.fnOf "__init__" "Grade.__init__" (defArgs s_Grade___init__) (defBody s_Grade___init__) (defScope s_Grade___init__) .none kV_Grade___init__ dc_Grade___init__ pm_Grade___init__ an_Grade___init__ cd_Grade___init__ ct_Grade___init__), sl_Grade___init__⟩)
    (d_Grade___init__ : PySem.W.codeIn K cd_Grade___init__ "Grade.__init__" = true) (k_Grade___init__ : PySem.W.keepIn K (.ref a_Grade___init__) = true)
    (x_is_number : PySem.W.nsIn K mainGlobals "is_number" = some (some (.ref a_is_number)))
    (l_is_number : K.lookup a_is_number = some ⟨oc_is_number, od_is_number, .func (PySem.W.fnOf "is_number" "is_number" (defArgs s_is_number) (defBody s_is_number) (defScope s_is_number) .none kV_is_number dc_is_number pm_is_number an_is_number cd_is_number ct_is_number), sl_is_number⟩)
    (d_is_number : PySem.W.codeIn K cd_is_number "is_number" = true) (k_is_number : PySem.W.keepIn K (.ref a_is_number) = true)
    (x_are_sizes : PySem.W.nsIn K mainGlobals "are_sizes" = some (some (.ref a_are_sizes)))
    (l_are_sizes : K.lookup a_are_sizes = some ⟨oc_are_sizes, od_are_sizes, .func (PySem.W.fnOf "are_sizes" "are_sizes" (defArgs s_are_sizes) (defBody s_are_sizes) (defScope s_are_sizes) .none kV_are_sizes dc_are_sizes pm_are_sizes an_are_sizes cd_are_sizes ct_are_sizes), sl_are_sizes⟩)
    (d_are_sizes : PySem.W.codeIn K cd_are_sizes "are_sizes" = true) (k_are_sizes : PySem.W.keepIn K (.ref a_are_sizes) = true)
    (x_is_fraction : PySem.W.nsIn K mainGlobals "is_fraction" = some (some (.ref a_is_fraction)))
    (l_is_fraction : K.lookup a_is_fraction = some ⟨oc_is_fraction, od_is_fraction, .func (PySem.W.fnOf "is_fraction" "is_fraction" (defArgs s_is_fraction) (defBody s_is_fraction) (defScope s_is_fraction) .none kV_is_fraction dc_is_fraction pm_is_fraction an_is_fraction cd_is_fraction ct_is_fraction), sl_is_fraction⟩)
    (d_is_fraction : PySem.W.codeIn K cd_is_fraction "is_fraction" = true) (k_is_fraction : PySem.W.keepIn K (.ref a_is_fraction) = true)
    (x_check_wanted : PySem.W.nsIn K mainGlobals "check_wanted" = some (some (.ref a_check_wanted)))
    (l_check_wanted : K.lookup a_check_wanted = some ⟨oc_check_wanted, od_check_wanted, .func (PySem.W.fnOf "check_wanted" "check_wanted" (defArgs s_check_wanted) (defBody s_check_wanted) (defScope s_check_wanted) .none kV_check_wanted dc_check_wanted pm_check_wanted an_check_wanted cd_check_wanted ct_check_wanted), sl_check_wanted⟩)
    (d_check_wanted : PySem.W.codeIn K cd_check_wanted "check_wanted" = true) (k_check_wanted : PySem.W.keepIn K (.ref a_check_wanted) = true)
    (x_worth : PySem.W.nsIn K mainGlobals "worth" = some (some (.ref a_worth)))
    (l_worth : K.lookup a_worth = some ⟨oc_worth, od_worth, .func (PySem.W.fnOf "worth" "worth" (defArgs s_worth) (defBody s_worth) (defScope s_worth) .none kV_worth dc_worth pm_worth an_worth cd_worth ct_worth), sl_worth⟩)
    (d_worth : PySem.W.codeIn K cd_worth "worth" = true) (k_worth : PySem.W.keepIn K (.ref a_worth) = true)
    (x_distance : PySem.W.nsIn K mainGlobals "distance" = some (some (.ref a_distance)))
    (l_distance : K.lookup a_distance = some ⟨oc_distance, od_distance, .func (PySem.W.fnOf "distance" "distance" (defArgs s_distance) (defBody s_distance) (defScope s_distance) .none kV_distance dc_distance pm_distance an_distance cd_distance ct_distance), sl_distance⟩)
    (d_distance : PySem.W.codeIn K cd_distance "distance" = true) (k_distance : PySem.W.keepIn K (.ref a_distance) = true)
    (x_is_less : PySem.W.nsIn K mainGlobals "is_less" = some (some (.ref a_is_less)))
    (l_is_less : K.lookup a_is_less = some ⟨oc_is_less, od_is_less, .func (PySem.W.fnOf "is_less" "is_less" (defArgs s_is_less) (defBody s_is_less) (defScope s_is_less) .none kV_is_less dc_is_less pm_is_less an_is_less cd_is_less ct_is_less), sl_is_less⟩)
    (d_is_less : PySem.W.codeIn K cd_is_less "is_less" = true) (k_is_less : PySem.W.keepIn K (.ref a_is_less) = true)
    (x_greatest : PySem.W.nsIn K mainGlobals "greatest" = some (some (.ref a_greatest)))
    (l_greatest : K.lookup a_greatest = some ⟨oc_greatest, od_greatest, .func (PySem.W.fnOf "greatest" "greatest" (defArgs s_greatest) (defBody s_greatest) (defScope s_greatest) .none kV_greatest dc_greatest pm_greatest an_greatest cd_greatest ct_greatest), sl_greatest⟩)
    (d_greatest : PySem.W.codeIn K cd_greatest "greatest" = true) (k_greatest : PySem.W.keepIn K (.ref a_greatest) = true)
    (x_is_line : PySem.W.nsIn K mainGlobals "is_line" = some (some (.ref a_is_line)))
    (l_is_line : K.lookup a_is_line = some ⟨oc_is_line, od_is_line, .func (PySem.W.fnOf "is_line" "is_line" (defArgs s_is_line) (defBody s_is_line) (defScope s_is_line) .none kV_is_line dc_is_line pm_is_line an_is_line cd_is_line ct_is_line), sl_is_line⟩)
    (d_is_line : PySem.W.codeIn K cd_is_line "is_line" = true) (k_is_line : PySem.W.keepIn K (.ref a_is_line) = true)
    (x_extremes : PySem.W.nsIn K mainGlobals "extremes" = some (some (.ref a_extremes)))
    (l_extremes : K.lookup a_extremes = some ⟨oc_extremes, od_extremes, .func (PySem.W.fnOf "extremes" "extremes" (defArgs s_extremes) (defBody s_extremes) (defScope s_extremes) .none kV_extremes dc_extremes pm_extremes an_extremes cd_extremes ct_extremes), sl_extremes⟩)
    (d_extremes : PySem.W.codeIn K cd_extremes "extremes" = true) (k_extremes : PySem.W.keepIn K (.ref a_extremes) = true)
    (x_rest_of : PySem.W.nsIn K mainGlobals "rest_of" = some (some (.ref a_rest_of)))
    (l_rest_of : K.lookup a_rest_of = some ⟨oc_rest_of, od_rest_of, .func (PySem.W.fnOf "rest_of" "rest_of" (defArgs s_rest_of) (defBody s_rest_of) (defScope s_rest_of) .none kV_rest_of dc_rest_of pm_rest_of an_rest_of cd_rest_of ct_rest_of), sl_rest_of⟩)
    (d_rest_of : PySem.W.codeIn K cd_rest_of "rest_of" = true) (k_rest_of : PySem.W.keepIn K (.ref a_rest_of) = true)
    (x_nearest_base : PySem.W.nsIn K mainGlobals "nearest_base" = some (some (.ref a_nearest_base)))
    (l_nearest_base : K.lookup a_nearest_base = some ⟨oc_nearest_base, od_nearest_base, .func (PySem.W.fnOf "nearest_base" "nearest_base" (defArgs s_nearest_base) (defBody s_nearest_base) (defScope s_nearest_base) .none kV_nearest_base dc_nearest_base pm_nearest_base an_nearest_base cd_nearest_base ct_nearest_base), sl_nearest_base⟩)
    (d_nearest_base : PySem.W.codeIn K cd_nearest_base "nearest_base" = true) (k_nearest_base : PySem.W.keepIn K (.ref a_nearest_base) = true)
    (x_Grade_shows : PySem.W.findIn K (.ref C2) "shows" = some (some (.ref a_Grade_shows))) (i_Grade_shows : PySem.W.isFn K (.ref a_Grade_shows) = true)
    (l_Grade_shows : K.lookup a_Grade_shows = some ⟨oc_Grade_shows, od_Grade_shows, .func (PySem.W.fnOf "shows" "Grade.shows" (defArgs s_Grade_shows) (defBody s_Grade_shows) (defScope s_Grade_shows) .none kV_Grade_shows dc_Grade_shows pm_Grade_shows an_Grade_shows cd_Grade_shows ct_Grade_shows), sl_Grade_shows⟩)
    (d_Grade_shows : PySem.W.codeIn K cd_Grade_shows "Grade.shows" = true) (k_Grade_shows : PySem.W.keepIn K (.ref a_Grade_shows) = true)
    (x__law_far : PySem.W.nsIn K mainGlobals "_law_far" = some (some (.ref a__law_far)))
    (l__law_far : K.lookup a__law_far = some ⟨oc__law_far, od__law_far, .func (PySem.W.fnOf "_law_far" "_law_far" (defArgs s__law_far) (defBody s__law_far) (defScope s__law_far) .none kV__law_far dc__law_far pm__law_far an__law_far cd__law_far ct__law_far), sl__law_far⟩)
    (d__law_far : PySem.W.codeIn K cd__law_far "_law_far" = true) (k__law_far : PySem.W.keepIn K (.ref a__law_far) = true)
    (x__law_less : PySem.W.nsIn K mainGlobals "_law_less" = some (some (.ref a__law_less)))
    (l__law_less : K.lookup a__law_less = some ⟨oc__law_less, od__law_less, .func (PySem.W.fnOf "_law_less" "_law_less" (defArgs s__law_less) (defBody s__law_less) (defScope s__law_less) .none kV__law_less dc__law_less pm__law_less an__law_less cd__law_less ct__law_less), sl__law_less⟩)
    (d__law_less : PySem.W.codeIn K cd__law_less "_law_less" = true) (k__law_less : PySem.W.keepIn K (.ref a__law_less) = true)
    (x__law_least : PySem.W.nsIn K mainGlobals "_law_least" = some (some (.ref a__law_least)))
    (l__law_least : K.lookup a__law_least = some ⟨oc__law_least, od__law_least, .func (PySem.W.fnOf "_law_least" "_law_least" (defArgs s__law_least) (defBody s__law_least) (defScope s__law_least) .none kV__law_least dc__law_least pm__law_least an__law_least cd__law_least ct__law_least), sl__law_least⟩)
    (d__law_least : PySem.W.codeIn K cd__law_least "_law_least" = true) (k__law_least : PySem.W.keepIn K (.ref a__law_least) = true)
    (x__law_number : PySem.W.nsIn K mainGlobals "_law_number" = some (some (.ref a__law_number)))
    (l__law_number : K.lookup a__law_number = some ⟨oc__law_number, od__law_number, .func (PySem.W.fnOf "_law_number" "_law_number" (defArgs s__law_number) (defBody s__law_number) (defScope s__law_number) .none kV__law_number dc__law_number pm__law_number an__law_number cd__law_number ct__law_number), sl__law_number⟩)
    (d__law_number : PySem.W.codeIn K cd__law_number "_law_number" = true) (k__law_number : PySem.W.keepIn K (.ref a__law_number) = true)
    (x__law_take : PySem.W.nsIn K mainGlobals "_law_take" = some (some (.ref a__law_take)))
    (l__law_take : K.lookup a__law_take = some ⟨oc__law_take, od__law_take, .func (PySem.W.fnOf "_law_take" "_law_take" (defArgs s__law_take) (defBody s__law_take) (defScope s__law_take) .none kV__law_take dc__law_take pm__law_take an__law_take cd__law_take ct__law_take), sl__law_take⟩)
    (d__law_take : PySem.W.codeIn K cd__law_take "_law_take" = true) (k__law_take : PySem.W.keepIn K (.ref a__law_take) = true)
    (x_far_by : PySem.W.nsIn K mainGlobals "far_by" = some (some (.ref a_far_by)))
    (l_far_by : K.lookup a_far_by = some ⟨oc_far_by, od_far_by, .func (PySem.W.fnOf "far_by" "far_by" (defArgs s_far_by) (defBody s_far_by) (defScope s_far_by) .none kV_far_by dc_far_by pm_far_by an_far_by cd_far_by ct_far_by), sl_far_by⟩)
    (d_far_by : PySem.W.codeIn K cd_far_by "far_by" = true) (k_far_by : PySem.W.keepIn K (.ref a_far_by) = true)
    (x_grade : PySem.W.nsIn K mainGlobals "grade" = some (some (.ref a_grade)))
    (l_grade : K.lookup a_grade = some ⟨oc_grade, od_grade, .func (PySem.W.fnOf "grade" "grade" (defArgs s_grade) (defBody s_grade) (defScope s_grade) .none kV_grade dc_grade pm_grade an_grade cd_grade ct_grade), sl_grade⟩)
    (d_grade : PySem.W.codeIn K cd_grade "grade" = true) (k_grade : PySem.W.keepIn K (.ref a_grade) = true)
    (x_law : PySem.W.nsIn K mainGlobals "law" = some (some (.ref a_law)))
    (l_law : K.lookup a_law = some ⟨oc_law, od_law, .func (PySem.W.fnOf "law" "law" (defArgs s_law) (defBody s_law) (defScope s_law) .none kV_law dc_law pm_law an_law cd_law ct_law), sl_law⟩)
    (d_law : PySem.W.codeIn K cd_law "law" = true) (k_law : PySem.W.keepIn K (.ref a_law) = true) :
    ∃ fd : FuncData, (∀ (s : Shared) (v : Value), BindsTo s fd ⟨[v], []⟩ [("_law_script", v)]) ∧ ∀ base : Heap, K.In base → base.Ns mainGlobals mg → FnOk l.prog w K mg base (L2.CX l.prog w) 6 fa fd ["_law_script"] (spLaw K []) := by
  have e := hfa.symm.trans (PySem.W.mg_of X G x_law)
  cases e
  let cl : Nat → Addr := fun i => if i = 0 then C0 else if i = 1 then C1 else if i = 2 then C2 else 0
  have TT : ∀ W : Wd, W.cl = cl → Txt K w mg W := fun W hW => ⟨by rw [hW]; exact ⟨pg2, hd2, po2, sa2⟩, by rw [hW]; exact ⟨xb1, PySem.W.mg_of X G aC1, kc1, sb1, ty1⟩, by rw [hW]; exact PySem.W.mg_of X G aC1, (by rw [hW]; intro i t h; unfold tr1 at h; (by_cases e0 : i = 1; (subst e0; rw [if_pos rfl] at h; cases h; exact PySem.W.exm_ref sb1 hd1 ty1 se1_1)); rw [if_neg e0] at h; cases h), by rw [hW]; exact n2_against, by rw [hW]; exact n2_line, PySem.W.mg_none_of X G b_abs, PySem.W.mg_none_of X G b_all, PySem.W.mg_none_of X G b_any, PySem.W.mg_none_of X G b_bool, PySem.W.mg_none_of X G b_dict, PySem.W.mg_none_of X G b_int, PySem.W.mg_none_of X G b_isinstance, PySem.W.mg_none_of X G b_len, PySem.W.mg_none_of X G b_list, PySem.W.mg_none_of X G b_max, PySem.W.mg_none_of X G b_min, PySem.W.mg_none_of X G b_range, PySem.W.mg_none_of X G b_sorted, PySem.W.mg_none_of X G b_tuple, ⟨_, PySem.W.mg_of X G c_MOST_BASE⟩, ⟨_, PySem.W.mg_of X G c_MOST_RISE⟩, ⟨_, PySem.W.mg_of X G c_MOST_SIZE⟩, ⟨_, PySem.W.mg_of X G c_MOST_WANTED⟩⟩
  have F_Grade___init__ := fun_mk (st := s_Grade___init__) l_Grade___init__ d_Grade___init__ k_Grade___init__
  have B_Grade___init__ := F_Grade___init__.binds (ps := ["self", "line", "against"]) fun _ _ _ _ _ _ us hl => match us, hl with | [_, _, _], _ => rfl
  have F_is_number := fun_mk (st := s_is_number) l_is_number d_is_number k_is_number
  have B_is_number := F_is_number.binds (ps := ["thing"]) fun _ _ _ _ _ _ us hl => match us, hl with | [_], _ => rfl
  have F_are_sizes := fun_mk (st := s_are_sizes) l_are_sizes d_are_sizes k_are_sizes
  have B_are_sizes := F_are_sizes.binds (ps := ["thing", "wanted"]) fun _ _ _ _ _ _ us hl => match us, hl with | [_, _], _ => rfl
  have F_is_fraction := fun_mk (st := s_is_fraction) l_is_fraction d_is_fraction k_is_fraction
  have B_is_fraction := F_is_fraction.binds (ps := ["thing"]) fun _ _ _ _ _ _ us hl => match us, hl with | [_], _ => rfl
  have F_check_wanted := fun_mk (st := s_check_wanted) l_check_wanted d_check_wanted k_check_wanted
  have B_check_wanted := F_check_wanted.binds (ps := ["wanted"]) fun _ _ _ _ _ _ us hl => match us, hl with | [_], _ => rfl
  have F_worth := fun_mk (st := s_worth) l_worth d_worth k_worth
  have B_worth := F_worth.binds (ps := ["line", "size"]) fun _ _ _ _ _ _ us hl => match us, hl with | [_, _], _ => rfl
  have F_distance := fun_mk (st := s_distance) l_distance d_distance k_distance
  have B_distance := F_distance.binds (ps := ["line", "size", "told"]) fun _ _ _ _ _ _ us hl => match us, hl with | [_, _, _], _ => rfl
  have F_is_less := fun_mk (st := s_is_less) l_is_less d_is_less k_is_less
  have B_is_less := F_is_less.binds (ps := ["one", "other"]) fun _ _ _ _ _ _ us hl => match us, hl with | [_, _], _ => rfl
  have F_greatest := fun_mk (st := s_greatest) l_greatest d_greatest k_greatest
  have B_greatest := F_greatest.binds (ps := ["line", "wanted"]) fun _ _ _ _ _ _ us hl => match us, hl with | [_, _], _ => rfl
  have F_is_line := fun_mk (st := s_is_line) l_is_line d_is_line k_is_line
  have B_is_line := F_is_line.binds (ps := ["thing"]) fun _ _ _ _ _ _ us hl => match us, hl with | [_], _ => rfl
  have F_extremes := fun_mk (st := s_extremes) l_extremes d_extremes k_extremes
  have B_extremes := F_extremes.binds (ps := ["wanted", "rise"]) fun _ _ _ _ _ _ us hl => match us, hl with | [_, _], _ => rfl
  have F_rest_of := fun_mk (st := s_rest_of) l_rest_of d_rest_of k_rest_of
  have B_rest_of := F_rest_of.binds (ps := ["wanted", "rise", "size"]) fun _ _ _ _ _ _ us hl => match us, hl with | [_, _, _], _ => rfl
  have F_nearest_base := fun_mk (st := s_nearest_base) l_nearest_base d_nearest_base k_nearest_base
  have B_nearest_base := F_nearest_base.binds (ps := ["wanted", "rise"]) fun _ _ _ _ _ _ us hl => match us, hl with | [_, _], _ => rfl
  have F_Grade_shows := fun_mk (st := s_Grade_shows) l_Grade_shows d_Grade_shows k_Grade_shows
  have B_Grade_shows := F_Grade_shows.binds (ps := ["self", "wanted"]) fun _ _ _ _ _ _ us hl => match us, hl with | [_, _], _ => rfl
  have F__law_far := fun_mk (st := s__law_far) l__law_far d__law_far k__law_far
  have B__law_far := F__law_far.binds (ps := ["_law_line", "_law_wanted"]) fun _ _ _ _ _ _ us hl => match us, hl with | [_, _], _ => rfl
  have F__law_less := fun_mk (st := s__law_less) l__law_less d__law_less k__law_less
  have B__law_less := F__law_less.binds (ps := ["_law_one", "_law_other"]) fun _ _ _ _ _ _ us hl => match us, hl with | [_, _], _ => rfl
  have F__law_least := fun_mk (st := s__law_least) l__law_least d__law_least k__law_least
  have B__law_least := F__law_least.binds (ps := ["_law_wanted", "_law_rise"]) fun _ _ _ _ _ _ us hl => match us, hl with | [_, _], _ => rfl
  have F__law_number := fun_mk (st := s__law_number) l__law_number d__law_number k__law_number
  have B__law_number := F__law_number.binds (ps := ["_law_script", "_law_index"]) fun _ _ _ _ _ _ us hl => match us, hl with | [_, _], _ => rfl
  have F__law_take := fun_mk (st := s__law_take) l__law_take d__law_take k__law_take
  have B__law_take := F__law_take.binds (ps := ["_law_draw", "_law_many"]) fun _ _ _ _ _ _ us hl => match us, hl with | [_, _], _ => rfl
  have F_far_by := fun_mk (st := s_far_by) l_far_by d_far_by k_far_by
  have B_far_by := F_far_by.binds (ps := ["line", "wanted"]) fun _ _ _ _ _ _ us hl => match us, hl with | [_, _], _ => rfl
  have F_grade := fun_mk (st := s_grade) l_grade d_grade k_grade
  have B_grade := F_grade.binds (ps := ["wanted"]) fun _ _ _ _ _ _ us hl => match us, hl with | [_], _ => rfl
  have F_law := fun_mk (st := s_law) l_law d_law k_law
  refine ⟨PySem.W.fnOf "law" "law" (defArgs s_law) (defBody s_law) (defScope s_law) .none kV_law dc_law pm_law an_law cd_law ct_law, fun s v => .of_eq rfl, fun base _ _ => ?_⟩
  refine okLaw (cl := cl) (rest := (defBody s_law).drop 1) (fun W => g_law W) F_law sc_law rfl (fun cdv A outer s H E => ps_set (i := 1) sc_law.nd rfl (Or.inl rfl) (pe_lst (pa_cons (pv 0) (pa_cons pe_int pa_nil)))) (fun W hW hTb hmd cdv hcv => ?_) (fun W h _ => K73.good W) (by decide)
  have T := TT W hW
  have G_Grade___init__ : CalI W.md l.prog w K mg base (W.cl 2) "Grade" 1 (spI K W (f_Grade___init__) 2 2) := ⟨_, _, _, ok_Grade___init__ F_Grade___init__ T , by rw [hW]; exact ⟨mk2, x_Grade___init__, i_Grade___init__, kc2⟩, by rw [hW]; exact PySem.W.mg_of X G aC2, B_Grade___init__⟩
  have G_is_number : Cal W.md l.prog w K mg base "is_number" 1 (spD K W (f_is_number) 1) := ⟨_, _, _, ok_is_number F_is_number T , PySem.W.mg_of X G x_is_number, k_is_number, B_is_number⟩
  have G_are_sizes : Cal W.md l.prog w K mg base "are_sizes" 2 (spD K W (f_are_sizes) 2) := ⟨_, _, _, ok_are_sizes F_are_sizes T G_is_number, PySem.W.mg_of X G x_are_sizes, k_are_sizes, B_are_sizes⟩
  have G_is_fraction : Cal W.md l.prog w K mg base "is_fraction" 2 (spD K W (f_is_fraction) 1) := ⟨_, _, _, ok_is_fraction F_is_fraction T G_is_number, PySem.W.mg_of X G x_is_fraction, k_is_fraction, B_is_fraction⟩
  have G_check_wanted : Cal W.md l.prog w K mg base "check_wanted" 3 (spD K W (f_check_wanted) 1) := ⟨_, _, _, ok_check_wanted F_check_wanted T G_is_fraction G_is_number, PySem.W.mg_of X G x_check_wanted, k_check_wanted, B_check_wanted⟩
  have G_worth : Cal W.md l.prog w K mg base "worth" 1 (spD K W (f_worth) 2) := ⟨_, _, _, ok_worth F_worth T , PySem.W.mg_of X G x_worth, k_worth, B_worth⟩
  have G_distance : Cal W.md l.prog w K mg base "distance" 2 (spD K W (f_distance) 3) := ⟨_, _, _, ok_distance F_distance T G_worth, PySem.W.mg_of X G x_distance, k_distance, B_distance⟩
  have G_is_less : Cal W.md l.prog w K mg base "is_less" 1 (spD K W (f_is_less) 2) := ⟨_, _, _, ok_is_less F_is_less T , PySem.W.mg_of X G x_is_less, k_is_less, B_is_less⟩
  have G_greatest : Cal W.md l.prog w K mg base "greatest" 3 (spD K W (f_greatest) 2) := ⟨_, _, _, ok_greatest F_greatest T G_distance G_is_less, PySem.W.mg_of X G x_greatest, k_greatest, B_greatest⟩
  have G_is_line : Cal W.md l.prog w K mg base "is_line" 2 (spD K W (f_is_line) 1) := ⟨_, _, _, ok_is_line F_is_line T G_is_number, PySem.W.mg_of X G x_is_line, k_is_line, B_is_line⟩
  have G_extremes : Cal W.md l.prog w K mg base "extremes" 2 (spD K W (f_extremes) 2) := ⟨_, _, _, ok_extremes F_extremes T G_is_less, PySem.W.mg_of X G x_extremes, k_extremes, B_extremes⟩
  have G_rest_of : Cal W.md l.prog w K mg base "rest_of" 1 (spD K W (f_rest_of) 3) := ⟨_, _, _, ok_rest_of F_rest_of T , PySem.W.mg_of X G x_rest_of, k_rest_of, B_rest_of⟩
  have G_nearest_base : Cal W.md l.prog w K mg base "nearest_base" 4 (spD K W (f_nearest_base) 2) := ⟨_, _, _, ok_nearest_base F_nearest_base T G_extremes G_greatest G_is_less G_rest_of, PySem.W.mg_of X G x_nearest_base, k_nearest_base, B_nearest_base⟩
  have G_Grade_shows : CalM W.md l.prog w K mg base (W.cl 2) "shows" 5 (spD K W (f_Grade_shows) 2) := ⟨_, _, _, ok_Grade_shows F_Grade_shows T G_are_sizes G_check_wanted G_greatest G_is_less G_is_line G_nearest_base, by rw [hW]; exact ⟨x_Grade_shows, i_Grade_shows, k_Grade_shows⟩, B_Grade_shows⟩
  have G__law_far : Cal W.md l.prog w K mg base "_law_far" 1 (spD K W (f__law_far) 2) := ⟨_, _, _, ok__law_far F__law_far T , PySem.W.mg_of X G x__law_far, k__law_far, B__law_far⟩
  have G__law_less : Cal W.md l.prog w K mg base "_law_less" 1 (spD K W (f__law_less) 2) := ⟨_, _, _, ok__law_less F__law_less T , PySem.W.mg_of X G x__law_less, k__law_less, B__law_less⟩
  have G__law_least : Cal W.md l.prog w K mg base "_law_least" 2 (spD K W (f__law_least) 2) := ⟨_, _, _, ok__law_least F__law_least T G__law_far G__law_less, PySem.W.mg_of X G x__law_least, k__law_least, B__law_least⟩
  have G__law_number : Cal W.md l.prog w K mg base "_law_number" 1 (spD K W (f__law_number W) 2) := ⟨_, _, _, ok__law_number F__law_number T , PySem.W.mg_of X G x__law_number, k__law_number, B__law_number⟩
  have G__law_take : Cal W.md l.prog w K mg base "_law_take" 2 (spD K W (f__law_take W) 2) := ⟨_, _, _, ok__law_take F__law_take T G__law_number, PySem.W.mg_of X G x__law_take, k__law_take, B__law_take⟩
  have G_far_by : Cal W.md l.prog w K mg base "far_by" 4 (spD K W (f_far_by) 2) := ⟨_, _, _, ok_far_by F_far_by T G_check_wanted G_distance G_is_less, PySem.W.mg_of X G x_far_by, k_far_by, B_far_by⟩
  have G_grade : Cal W.md l.prog w K mg base "grade" 5 (spD K W (f_grade) 1) := ⟨_, _, _, ok_grade F_grade T G_check_wanted G_extremes G_greatest G_is_less G_nearest_base G_Grade___init__, PySem.W.mg_of X G x_grade, k_grade, B_grade⟩
  exact body_law F_law T G__law_far G__law_least G__law_less G__law_take G_far_by G_grade G_Grade___init__ G_Grade_shows hmd (Nat.le_refl _) cdv
end P_k73_whole_grades
local macro_rules
  | `(tactic| o_head $H) => do
    let hl := Lean.mkIdent `hl
    let hw := Lean.mkIdent `hw
    let hc := Lean.mkIdent `hc
    `(tactic| refine PySem.W.holds_open (q := Hd.q) (loose := Hd.nm) (Xt := fun s => PySem.W.xlAt Hd.q [] s && PySem.W.recOk (PySem.W.RowW.records (PySem.W.OpenRow.toRowW Hd.R)) s) (XP := PySem.W.XL Hd.q []) (Yf := PySem.W.Hook.obs $H) (Ya := PySem.W.Hook.val $H) (YP := PySem.W.Hook.says $H) (N := 40000) ?$hl (PySem.W.Hook.of $H) (PySem.W.Hook.keeps $H) (fun s e => PySem.W.xl_of s (Bool.and_eq_true_iff.mp e).1) PySem.W.XL.keeps (by rfl) (by rfl) (by rfl) (fun s e => PySem.W.recFacts_of (Bool.and_eq_true_iff.mp e).2) (by rfl) (by first | assumption | decide +kernel) (by decide +kernel) ⟨rfl, rfl, rfl, rfl, rfl, by decide +kernel⟩ ?$hw ?$hc)
open PySem PySem.W PyProof.Rows in
set_option maxRecDepth 100000 in
set_option maxHeartbeats 0 in
theorem PySem.Challenge.cw_allstitches_k73_whole_grades_holds : PySem.Challenge.rw_allstitches_k73_whole_grades.Holds := by
  w_on; o_law
  o_head (PySem.W.kHook Hd.pre.heap_39 Hd.ads Hd.ads_eq)
  case hl => exact HeadRun.left_oneK (M := 30000) (by kernel_rfl) (by rfl) (fun s => by kernel_rfl) (by rfl) Hd.run
  (case hw => w_witness2)
  k_fill
  refine DL.law_walk (l := PySem.Challenge.rw_allstitches_k73_whole_grades) (k := 6) (x := "_law_script") rfl rfl ⟨rfl, by decide, by decide⟩ (fun w h Y => PySem.W.kIn_of Y) ?F
  case F =>
    intro w mg fa h KX G hmg
    refine' P_k73_whole_grades.all_mk KX G hmg ?aC0 ?aC1 ?aC2 ?xb1 ?kc1 ?sb1 ?ty1 ?hd1 ?se1_1 ?pg2 ?hd2 ?po2 ?sa2 ?mk2 ?kc2 ?n2_against ?n2_line ?b_abs ?b_all ?b_any ?b_bool ?b_dict ?b_int ?b_isinstance ?b_len ?b_list ?b_max ?b_min ?b_range ?b_sorted ?b_tuple ?c_MOST_BASE ?c_MOST_RISE ?c_MOST_SIZE ?c_MOST_WANTED ?x_Grade___init__ ?i_Grade___init__ ?l_Grade___init__ ?d_Grade___init__ ?k_Grade___init__ ?x_is_number ?l_is_number ?d_is_number ?k_is_number ?x_are_sizes ?l_are_sizes ?d_are_sizes ?k_are_sizes ?x_is_fraction ?l_is_fraction ?d_is_fraction ?k_is_fraction ?x_check_wanted ?l_check_wanted ?d_check_wanted ?k_check_wanted ?x_worth ?l_worth ?d_worth ?k_worth ?x_distance ?l_distance ?d_distance ?k_distance ?x_is_less ?l_is_less ?d_is_less ?k_is_less ?x_greatest ?l_greatest ?d_greatest ?k_greatest ?x_is_line ?l_is_line ?d_is_line ?k_is_line ?x_extremes ?l_extremes ?d_extremes ?k_extremes ?x_rest_of ?l_rest_of ?d_rest_of ?k_rest_of ?x_nearest_base ?l_nearest_base ?d_nearest_base ?k_nearest_base ?x_Grade_shows ?i_Grade_shows ?l_Grade_shows ?d_Grade_shows ?k_Grade_shows ?x__law_far ?l__law_far ?d__law_far ?k__law_far ?x__law_less ?l__law_less ?d__law_less ?k__law_less ?x__law_least ?l__law_least ?d__law_least ?k__law_least ?x__law_number ?l__law_number ?d__law_number ?k__law_number ?x__law_take ?l__law_take ?d__law_take ?k__law_take ?x_far_by ?l_far_by ?d_far_by ?k_far_by ?x_grade ?l_grade ?d_grade ?k_grade ?x_law ?l_law ?d_law ?k_law
    (case aC0 => k_is)
    (case aC1 => k_is)
    (case aC2 => k_is)
    (case xb1 => k_exc)
    (case kc1 => k_is)
    (case sb1 => k_is)
    (case ty1 => k_is)
    (case hd1 => k_is)
    (case se1_1 => k_is)
    (case pg2 => k_is)
    (case hd2 => k_is)
    (case po2 => k_is)
    (case sa2 => k_is)
    (case mk2 => k_is)
    (case kc2 => k_is)
    (case n2_against => k_is)
    (case n2_line => k_is)
    (case b_abs => k_is)
    (case b_all => k_is)
    (case b_any => k_is)
    (case b_bool => k_is)
    (case b_dict => k_is)
    (case b_int => k_is)
    (case b_isinstance => k_is)
    (case b_len => k_is)
    (case b_list => k_is)
    (case b_max => k_is)
    (case b_min => k_is)
    (case b_range => k_is)
    (case b_sorted => k_is)
    (case b_tuple => k_is)
    (case c_MOST_BASE => k_is)
    (case c_MOST_RISE => k_is)
    (case c_MOST_SIZE => k_is)
    (case c_MOST_WANTED => k_is)
    (case x_Grade___init__ => k_is)
    (case i_Grade___init__ => k_is)
    (case l_Grade___init__ => k_is)
    (case d_Grade___init__ => k_is)
    (case k_Grade___init__ => k_is)
    (case x_is_number => k_is)
    (case l_is_number => k_is)
    (case d_is_number => k_is)
    (case k_is_number => k_is)
    (case x_are_sizes => k_is)
    (case l_are_sizes => k_is)
    (case d_are_sizes => k_is)
    (case k_are_sizes => k_is)
    (case x_is_fraction => k_is)
    (case l_is_fraction => k_is)
    (case d_is_fraction => k_is)
    (case k_is_fraction => k_is)
    (case x_check_wanted => k_is)
    (case l_check_wanted => k_is)
    (case d_check_wanted => k_is)
    (case k_check_wanted => k_is)
    (case x_worth => k_is)
    (case l_worth => k_is)
    (case d_worth => k_is)
    (case k_worth => k_is)
    (case x_distance => k_is)
    (case l_distance => k_is)
    (case d_distance => k_is)
    (case k_distance => k_is)
    (case x_is_less => k_is)
    (case l_is_less => k_is)
    (case d_is_less => k_is)
    (case k_is_less => k_is)
    (case x_greatest => k_is)
    (case l_greatest => k_is)
    (case d_greatest => k_is)
    (case k_greatest => k_is)
    (case x_is_line => k_is)
    (case l_is_line => k_is)
    (case d_is_line => k_is)
    (case k_is_line => k_is)
    (case x_extremes => k_is)
    (case l_extremes => k_is)
    (case d_extremes => k_is)
    (case k_extremes => k_is)
    (case x_rest_of => k_is)
    (case l_rest_of => k_is)
    (case d_rest_of => k_is)
    (case k_rest_of => k_is)
    (case x_nearest_base => k_is)
    (case l_nearest_base => k_is)
    (case d_nearest_base => k_is)
    (case k_nearest_base => k_is)
    (case x_Grade_shows => k_is)
    (case i_Grade_shows => k_is)
    (case l_Grade_shows => k_is)
    (case d_Grade_shows => k_is)
    (case k_Grade_shows => k_is)
    (case x__law_far => k_is)
    (case l__law_far => k_is)
    (case d__law_far => k_is)
    (case k__law_far => k_is)
    (case x__law_less => k_is)
    (case l__law_less => k_is)
    (case d__law_less => k_is)
    (case k__law_less => k_is)
    (case x__law_least => k_is)
    (case l__law_least => k_is)
    (case d__law_least => k_is)
    (case k__law_least => k_is)
    (case x__law_number => k_is)
    (case l__law_number => k_is)
    (case d__law_number => k_is)
    (case k__law_number => k_is)
    (case x__law_take => k_is)
    (case l__law_take => k_is)
    (case d__law_take => k_is)
    (case k__law_take => k_is)
    (case x_far_by => k_is)
    (case l_far_by => k_is)
    (case d_far_by => k_is)
    (case k_far_by => k_is)
    (case x_grade => k_is)
    (case l_grade => k_is)
    (case d_grade => k_is)
    (case k_grade => k_is)
    (case x_law => k_is)
    (case l_law => k_is)
    (case d_law => k_is)
    (case k_law => k_is)
end
