import PyProof.Rows.All
import Wide.All
import OpenK.AllK
import Wide.FinOn
import HandS.ForMost
import HandS.Exc
import HandS.ExcOwn
import HandS.WordsExc
import HandS.TryOnly
import HandS.TryMany
import HandS.ExcInit
import HandS.IsInst
import HandS.NoneIn
import HandS.ExcIs
import HandS.Wide
import HandS.WideMore
import HandS.OwnEq
import HandS.HeadHook4
import HandS.HeadEnd
import HandS.Head2
import HandS.Conv
import HandS.Small
import HandS.Flow
import HandS.Style
import HandS.SortInts
import KE.KExcIs
import HandS.TupAny
import HandS.Zip
import HandS.DictComp
import HandS.Comp
import KE.GoesEnum
import HandS.Defaults
import HandS.EndBits
import PySem.Challenge.RW_threetiles_k04_places_and_stars
set_option Elab.async false
set_option linter.all false
set_option maxRecDepth 100000
set_option maxHeartbeats 4000000
/-! Core 1: values told without a heap, how they lie in it. -/
namespace Tk
open PySem PySem.Spec PyProof.Rows L2

/-- a value: tup, lst, obj never change; loc k is the k-th shared cell; own, new, exn pass by -/
inductive D where
  | non | bl (b : Bool) | int (i : Int) | str (s : Str)
  | tup (xs : List D) | lst (xs : List D) | obj (c : Nat) (fs : List D)
  | dic0 | scr (xs : List D) | loc (k : Nat) | own (i : Nat) (xs : List D) | new (xs : List D) | exn (c : Nat) (fs : List D)
inductive Cell where
  | lst (xs : List D) | ins (c : Nat) (fs : List D)
abbrev Sto := List Cell

/-- what is known of the text: the written part, where the classes stand, their fields' names -/
structure Wd where
  K : PySem.W.Frag
  ca : Nat → Addr
  cf : Nat → List Str
/-- the cells' addresses; addresses that no value names; the caught exception -/
structure Ct where
  m : List Addr
  x : List Addr
  su : Option (Addr × Value × Option Addr) := none

/-- what is tracked and stands for ever -/
def Fx (c : Ct) (H : Hp) (a : Addr) (o : HO) : Prop := H a = some o ∧ a ∉ c.m ∧ a ∉ c.x
def KTup (K : PySem.W.Frag) (a : Addr) (xs : List V) : Prop :=
  ∃ (o : Obj) (its : Array Value) (n : Nat), K.lookup a = some o ∧ o.cls = .type "tuple" ∧ o.data = .seq its n ∧ its.size ≤ sizeLine ∧ Vals xs its.toList
def KLs (K : PySem.W.Frag) (a : Addr) (xs : List V) : Prop :=
  ∃ (o : Obj) (its : Array Value) (n : Nat), K.lookup a = some o ∧ o.cls = .type "list" ∧ o.dict = none ∧ o.data = .seq its n ∧ its.size ≤ sizeLine ∧ Vals xs its.toList
def FxL (K : PySem.W.Frag) (c : Ct) (H : Hp) (a : Addr) (xs : List V) : Prop := ((H a = some (.lst xs) ∨ ∃ o, H a = some (.frz o (.lst xs))) ∧ a ∉ c.m ∧ a ∉ c.x) ∨ KLs K a xs

mutual
def Rep (g : Wd) (c : Ct) (H : Hp) : D → V → Prop
  | .non, v => v = .non
  | .bl b, v => v = .bl b
  | .int i, v => v = .int i
  | .str s, v => v = .str s
  | .dic0, v => ∃ a, v = .ref a ∧ Fx c H a (.dK [])
  | .tup xs, v => ∃ a vs, v = .ref a ∧ (Fx c H a (.tup vs) ∨ KTup g.K a vs) ∧ Reps g c H xs vs
  | .lst xs, v => ∃ a vs, v = .ref a ∧ Fx c H a (.lst vs) ∧ Reps g c H xs vs
  | .scr xs, v => ∃ a vs, v = .ref a ∧ FxL g.K c H a vs ∧ Reps g c H xs vs
  | .new _, _ => False
  | .own _ _, _ => False
  | .obj k fs, v => ∃ a dx vs, v = .ref a ∧ Fx c H a (.ins (g.ca k) dx ((g.cf k).zip vs)) ∧ vs.length = (g.cf k).length ∧ Reps g c H fs vs
  | .loc k, v => ∃ a, v = .ref a ∧ c.m[k]? = some a
  | .exn _ _, _ => False
def Reps (g : Wd) (c : Ct) (H : Hp) : List D → List V → Prop
  | [], vs => vs = []
  | d :: ds, vs => ∃ v r, vs = v :: r ∧ Rep g c H d v ∧ Reps g c H ds r
end

/-- the heap has grown; cells may have changed -/
structure E (c : Ct) (H : Hp) (c' : Ct) (H' : Hp) : Prop where
  pre : c.m <+: c'.m
  x : c'.x = c.x
  su : c'.su = c.su
  keep : ∀ b o, H b = some o → b ∉ c.m → H' b = some o ∧ b ∉ c'.m
  dom : ∀ b, H b ≠ none → H' b ≠ none

theorem E.refl (c : Ct) (H : Hp) : E c H c H := ⟨List.prefix_refl _, rfl, rfl, fun _ _ h n => ⟨h, n⟩, fun _ h => h⟩
theorem E.trans {c1 c2 c3 : Ct} {H1 H2 H3 : Hp} (a : E c1 H1 c2 H2) (b : E c2 H2 c3 H3) : E c1 H1 c3 H3 :=
  ⟨a.pre.trans b.pre, b.x.trans a.x, b.su.trans a.su, fun p o h n => let ⟨h1, n1⟩ := a.keep p o h n; b.keep p o h1 n1, fun p h => b.dom p (a.dom p h)⟩

section
variable {g : Wd} {c c' : Ct} {H H' : Hp}
theorem Fx.ext {a : Addr} {o : HO} (e : E c H c' H') (h : Fx c H a o) : Fx c' H' a o := by
  obtain ⟨h1, h2, h3⟩ := h
  obtain ⟨h4, h5⟩ := e.keep _ _ h1 h2
  exact ⟨h4, h5, by rw [e.x]; exact h3⟩
/-- a general carrying over: what is kept, which exclusions -/
structure Cy (c : Ct) (H : Hp) (c' : Ct) (H' : Hp) : Prop where
  fx : ∀ a o, Fx c H a o → Fx c' H' a o
  loc : ∀ (k : Nat) a, c.m[k]? = some a → c'.m[k]? = some a
theorem FxL.cy {K : PySem.W.Frag} {a : Addr} {xs : List V} (e : Cy c H c' H') (h : FxL K c H a xs) : FxL K c' H' a xs := by
  rcases h with ⟨h1 | ⟨o, h1⟩, h2, h3⟩ | h
  · have := e.fx _ _ ⟨h1, h2, h3⟩
    exact .inl ⟨.inl this.1, this.2⟩
  · have := e.fx _ _ ⟨h1, h2, h3⟩
    exact .inl ⟨.inr ⟨o, this.1⟩, this.2⟩
  · exact .inr h
theorem FxL.sq {K : PySem.W.Frag} {a : Addr} {xs : List V} (h : FxL K c H a xs) : SqL K H a xs := by
  rcases h with ⟨h1 | ⟨o, h1⟩, _⟩ | h
  · exact .inl (.inl h1)
  · exact .inl (.inr ⟨o, h1⟩)
  · exact .inr h
mutual
theorem Rep.cy (e : Cy c H c' H') : ∀ (d : D) (v : V), Rep g c H d v → Rep g c' H' d v
  | .non, v, h => by simpa [Rep] using h
  | .bl b, v, h => by simpa [Rep] using h
  | .int i, v, h => by simpa [Rep] using h
  | .str s, v, h => by simpa [Rep] using h
  | .dic0, v, h => by
    rw [Rep] at h ⊢
    obtain ⟨a, h1, h2⟩ := h
    exact ⟨a, h1, e.fx _ _ h2⟩
  | .tup xs, v, h => by
    rw [Rep] at h ⊢
    obtain ⟨a, vs, h1, h2, h3⟩ := h
    exact ⟨a, vs, h1, h2.imp (e.fx _ _) id, Reps.cy e xs vs h3⟩
  | .lst xs, v, h => by
    rw [Rep] at h ⊢
    obtain ⟨a, vs, h1, h2, h3⟩ := h
    exact ⟨a, vs, h1, e.fx _ _ h2, Reps.cy e xs vs h3⟩
  | .scr xs, v, h => by
    rw [Rep] at h ⊢
    obtain ⟨a, vs, h1, h2, h3⟩ := h
    exact ⟨a, vs, h1, h2.cy e, Reps.cy e xs vs h3⟩
  | .new xs, v, h => by rw [Rep] at h; exact h.elim
  | .own i xs, v, h => by rw [Rep] at h; exact h.elim
  | .obj k fs, v, h => by
    rw [Rep] at h ⊢
    obtain ⟨a, dx, vs, h1, h2, h3, h4⟩ := h
    exact ⟨a, dx, vs, h1, e.fx _ _ h2, h3, Reps.cy e fs vs h4⟩
  | .loc k, v, h => by
    rw [Rep] at h ⊢
    obtain ⟨a, h1, h2⟩ := h
    exact ⟨a, h1, e.loc _ _ h2⟩
  | .exn k fs, v, h => by rw [Rep] at h; exact h.elim
theorem Reps.cy (e : Cy c H c' H') : ∀ (ds : List D) (vs : List V), Reps g c H ds vs → Reps g c' H' ds vs
  | [], vs, h => by rw [Reps] at h ⊢; exact h
  | d :: ds, vs, h => by
    rw [Reps] at h ⊢
    obtain ⟨v, r, h1, h2, h3⟩ := h
    exact ⟨v, r, h1, Rep.cy e d v h2, Reps.cy e ds r h3⟩
end
theorem E.cy (e : E c H c' H') : Cy c H c' H' where
  fx := fun a o h => h.ext e
  loc := fun k a h => by
    obtain ⟨t, ht⟩ := e.pre
    rw [← ht, List.getElem?_append_left]
    · exact h
    · exact (List.getElem?_eq_some_iff.mp h).1
theorem Reps.length : ∀ {ds : List D} {vs : List V}, Reps g c H ds vs → vs.length = ds.length
  | [], vs, h => by rw [Reps] at h; rw [h]; rfl
  | d :: ds, vs, h => by
    rw [Reps] at h
    obtain ⟨v, r, h1, h2, h3⟩ := h
    rw [h1, List.length_cons, List.length_cons, Reps.length h3]
theorem Reps.get : ∀ {ds : List D} {vs : List V} {i : Nat} {d : D}, Reps g c H ds vs → ds[i]? = some d → ∃ v, vs[i]? = some v ∧ Rep g c H d v
  | [], vs, i, d, h, q => by simp at q
  | e :: ds, vs, 0, d, h, q => by
    rw [Reps] at h
    obtain ⟨v, r, h1, h2, h3⟩ := h
    simp at q
    subst q h1
    exact ⟨v, by simp, h2⟩
  | e :: ds, vs, i + 1, d, h, q => by
    rw [Reps] at h
    obtain ⟨v, r, h1, h2, h3⟩ := h
    simp at q
    subst h1
    obtain ⟨w, h4, h5⟩ := Reps.get h3 q
    exact ⟨w, by simpa using h4, h5⟩
theorem Reps.append : ∀ {ds es : List D} {vs ws : List V}, Reps g c H ds vs → Reps g c H es ws → Reps g c H (ds ++ es) (vs ++ ws)
  | [], es, vs, ws, h, q => by rw [Reps] at h; subst h; exact q
  | d :: ds, es, vs, ws, h, q => by
    rw [Reps] at h
    obtain ⟨v, r, h1, h2, h3⟩ := h
    subst h1
    show Reps g c H (d :: (ds ++ es)) (v :: (r ++ ws))
    rw [Reps]
    exact ⟨v, _, rfl, h2, Reps.append h3 q⟩
theorem Reps.set : ∀ {ds : List D} {vs : List V} {i : Nat} {d : D} {v : V}, Reps g c H ds vs → Rep g c H d v → Reps g c H (ds.set i d) (vs.set i v)
  | [], vs, i, d, v, h, q => by rw [Reps] at h; subst h; simp [Reps]
  | e :: ds, vs, 0, d, v, h, q => by
    rw [Reps] at h
    obtain ⟨w, r, h1, h2, h3⟩ := h
    subst h1
    simp only [List.set_cons_zero]
    rw [Reps]
    exact ⟨v, r, rfl, q, h3⟩
  | e :: ds, vs, i + 1, d, v, h, q => by
    rw [Reps] at h
    obtain ⟨w, r, h1, h2, h3⟩ := h
    subst h1
    simp only [List.set_cons_succ]
    rw [Reps]
    exact ⟨w, _, rfl, h2, Reps.set h3 q⟩
theorem Reps.nil : Reps g c H [] [] := by rw [Reps]
theorem Reps.cons {d : D} {v : V} {ds : List D} {vs : List V} (h : Rep g c H d v) (t : Reps g c H ds vs) : Reps g c H (d :: ds) (v :: vs) := by
  rw [Reps]
  exact ⟨v, vs, rfl, h, t⟩
theorem Reps.cons_iff {d : D} {ds : List D} {vs : List V} : Reps g c H (d :: ds) vs ↔ ∃ v r, vs = v :: r ∧ Rep g c H d v ∧ Reps g c H ds r := by rw [Reps]
theorem Reps.nil_iff {vs : List V} : Reps g c H [] vs ↔ vs = [] := by rw [Reps]
theorem Reps.take : ∀ {ds : List D} {vs : List V} (n : Nat), Reps g c H ds vs → Reps g c H (ds.take n) (vs.take n)
  | _, _, 0, _ => by simpa using Reps.nil
  | [], vs, n + 1, h => by rw [Reps] at h; subst h; simpa using Reps.nil
  | d :: ds, vs, n + 1, h => by
    obtain ⟨v, r, h1, h2, h3⟩ := Reps.cons_iff.mp h
    subst h1
    exact Reps.cons h2 (Reps.take n h3)
theorem Reps.drop : ∀ {ds : List D} {vs : List V} (n : Nat), Reps g c H ds vs → Reps g c H (ds.drop n) (vs.drop n)
  | _, _, 0, h => h
  | [], vs, n + 1, h => by rw [Reps] at h; subst h; simpa using Reps.nil
  | d :: ds, vs, n + 1, h => by
    obtain ⟨v, r, h1, h2, h3⟩ := Reps.cons_iff.mp h
    subst h1
    exact Reps.drop n h3
end

/-- the cells -/
def CellOk (g : Wd) (c : Ct) (H : Hp) (a : Addr) : Cell → Prop
  | .lst xs => ∃ vs, H a = some (.lst vs) ∧ Reps g c H xs vs
  | .ins k fs => ∃ dx vs, H a = some (.ins (g.ca k) dx (((g.cf k).take fs.length).zip vs)) ∧ fs.length ≤ (g.cf k).length ∧ Reps g c H fs vs
structure RelS (g : Wd) (c : Ct) (H : Hp) (S : Sto) : Prop where
  nd : c.m.Nodup
  len : c.m.length = S.length
  x : ∀ a ∈ c.x, a ∉ c.m ∧ H a ≠ none
  ok : ∀ (k : Nat) ce a, S[k]? = some ce → c.m[k]? = some a → CellOk g c H a ce
/-- the frame's slots -/
inductive Slot where
  | emp | val (d : D) | own (xs : List D) | exc (k : Nat) (fs : List D)
abbrev Ev := List Slot
/-- the exception that is held -/
def ExRep (g : Wd) (c : Ct) (H : Hp) (k : Nat) (fs : List D) (a : Addr) : Prop :=
  ∃ vs d, c.su = some (a, .ref (g.ca k), d) ∧ (fs = [] ∧ d = none ∨ ∃ dd, d = some dd ∧ Fx c H dd (.xd ((g.cf k).zip vs))) ∧ vs.length = (g.cf k).length ∧ Reps g c H fs vs
theorem ExRep.cy {g : Wd} {c c' : Ct} {H H' : Hp} {k : Nat} {fs : List D} {a : Addr} (h : ExRep g c H k fs a) (e : Cy c H c' H') (hs : c'.su = c.su) : ExRep g c' H' k fs a := by
  obtain ⟨vs, d, h1, h2, h3, h4⟩ := h
  exact ⟨vs, d, by rw [hs]; exact h1, h2.imp id fun ⟨dd, q1, q2⟩ => ⟨dd, q1, e.fx _ _ q2⟩, h3, Reps.cy e _ _ h4⟩
structure RelE (g : Wd) (c : Ct) (H : Hp) (o : List (Nat × Addr)) (σ : L2.St) (ρ : Ev) : Prop where
  len : σ.length = ρ.length
  val : ∀ (i : Nat) d, ρ[i]? = some (.val d) → ∃ v, σ[i]? = some (some v) ∧ Rep g c H d v
  own : ∀ (i : Nat) xs, ρ[i]? = some (.own xs) → ∃ a vs, σ[i]? = some (some (.ref a)) ∧ (i, a) ∈ o ∧ H a = some (.lst vs) ∧ Reps g c H xs vs
  exc : ∀ (i : Nat) k fs, ρ[i]? = some (.exc k fs) → ∃ a, σ[i]? = some (some (.ref a)) ∧ ExRep g c H k fs a
  sub : ∀ i a, (i, a) ∈ o → a ∈ c.x
  uni : ∀ i j a, (i, a) ∈ o → (j, a) ∈ o → i = j

end Tk
/-! Core 2: the small language and what it computes. -/
namespace Tk
open PySem PySem.Spec PyProof.Rows L2

inductive Bi where | add | sub | mul | fdiv | mod | pow
  deriving DecidableEq
inductive Cm where | eq | ne | lt | le | gt | ge | isn | notn | isin | notin | isb (b : Bool) | isnb (b : Bool) | eq0 | eqn
  deriving DecidableEq
/-- built-ins by name -/
inductive Bt where | len | abs | int | bool | list | tuple | max2 | min2 | sum | all | any | str
  deriving DecidableEq
/-- what isinstance asks for: a built-in class, an own one -/
inductive Ck where | ty (n : String) | own (c : Nat)
  deriving DecidableEq
inductive Tg where | nm (i : Nat) | tp (is : List Nat)

mutual
inductive CE where
  | never
  | var (i : Nat) | non | bl (b : Bool) | int (i : Int) | str (s : Str)
  | neg (a : CE) | not (a : CE)
  | bin (op : Bi) (a b : CE) | cmp (op : Cm) (a b : CE) | cmp2 (o1 o2 : Cm) (a b c : CE)
  | and (es : CEs) | or (es : CEs) | ite (c a b : CE)
  | tup (es : CEs) | lst (es : CEs) | dic0
  | ix (a i : CE) | sl (a lo hi : CE) | nul
  | attr (a : CE) (f : Nat)
  | call (f : Nat) (es : CEs) | make (k : Nat) (f : Nat) (es : CEs) | meth (a : CE) (f : Nat) (es : CEs)
  | blt (b : Bt) (es : CEs) | isi (a : CE) (k : Ck)
  | comp (vs : List Nat) (tg : Tg) (it : CI) (cd : CE) (el : CE)
inductive CEs where
  | nil | cons (e : CE) (es : CEs)
inductive CI where
  | seq (e : CE) | range1 (a : CE) | range2 (a b : CE) | enum (e : CE) | zip (a b : CE) | rev (e : CE)
end

mutual
inductive CS where
  | never
  | set (i : Nat) (e : CE) | setO (i : Nat) (e : CE) | setL (i : Nat) (e : CE)
  | setT (is : List Nat) (e : CE) | par (i j : Nat) (a b : CE)
  | seta (o : CE) (f : Nat) (e : CE) | seti (o k e : CE) | app (o e : CE)
  | expr (e : CE) | ret (e : CE) | retN | pass | brk | cont
  | ite (c : CE) (a b : CB) | for_ (tg : Tg) (it : CI) (b : CB) | while_ (c : CE) (b : CB)
  | raise (k : Nat) (es : CEs)
  | retO (i : Nat) | appO (i : Nat) (e : CE) | setiO (i : Nat) (k e : CE)
  | try_ (b : CB) (k : Nat) (nm : Option Nat) (h : CB)
inductive CB where
  | nil | cons (s : CS) (r : CB) | frz (i : Nat) (r : CB)
end

/-- results -/
inductive R (α : Type) where
  | ok (a : α) (S : Sto) | err (k : Nat) (fs : List D) (S : Sto) | bad
inductive O where
  | next (ρ : Ev) (S : Sto) | ret (d : D) (S : Sto) | brk (ρ : Ev) (S : Sto) | cont (ρ : Ev) (S : Sto) | err (k : Nat) (fs : List D) (ρ : Ev) (S : Sto) | bad
def R.bind {α β : Type} (r : R α) (f : α → Sto → R β) : R β := match r with
  | .ok a S => f a S
  | .err k fs S => .err k fs S
  | .bad => .bad
def R.bindO {α : Type} (ρ : Ev) (r : R α) (f : α → Sto → O) : O := match r with
  | .ok a S => f a S
  | .err k fs S => .err k fs ρ S
  | .bad => .bad

/-- one def of the text: its name, its class (a method), its slots, how many of them are parameters, its body -/
structure DefT where
  name : Str
  cls : Option Nat := none
  N : List Str
  np : Nat
  body : CB
structure ClsT where
  name : Str
  fields : List Str
  exc : Bool := false
  /-- __eq__, __neg__, and the operators: op, its def, the reflected one's -/
  eq : Option Nat := none
  neg : Option Nat := none
  ops : List (Bi × Nat × Nat) := []
  /-- its methods: (attribute, def) -/
  meths : List (Nat × Nat) := []
structure Prog where
  defs : List DefT
  clss : List ClsT
  attrs : List Str
  /-- subclasses: (class, what it is one of) -/
  subs : List (Nat × Nat) := []
  /-- the text's constants: integers, tuples of such -/
  glos : List (Str × D) := []

def LIM : Nat := 100000
/-- at rest: what may be stored -/
def fz : D → D
  | .new xs => .lst xs
  | .own _ xs => .lst xs
  | d => d
/-- what is passed on without being one's own list -/
def still : D → Bool
  | .own _ _ => false
  | .exn _ _ => false
  | _ => true
def fzs (ds : List D) : Option (List D) := if ds.all still then some (ds.map fz) else none
def seqOf (S : Sto) : D → Option (List D)
  | .tup xs => some xs
  | .lst xs => some xs
  | .new xs => some xs
  | .scr xs => some xs
  | .own _ xs => some xs
  | .loc k => match S[k]? with
    | some (.lst xs) => some xs
    | _ => none
  | _ => none
def truth (S : Sto) : D → Option Bool
  | .non => some false
  | .bl b => some b
  | .int i => some (i != 0)
  | .tup xs => some (!xs.isEmpty)
  | .lst xs => some (!xs.isEmpty)
  | .new xs => some (!xs.isEmpty)
  | .scr xs => some (!xs.isEmpty)
  | .own _ xs => some (!xs.isEmpty)
  | .loc k => match S[k]? with
    | some (.lst xs) => some (!xs.isEmpty)
    | _ => none
  | .dic0 => some false
  | _ => none

/-! ### == of data -/
mutual
def eqB : D → D → Bool
  | .non, .non => true
  | .bl a, .bl b => a == b
  | .bl a, .int j => (if a then 1 else 0) == j
  | .int i, .bl b => i == (if b then 1 else 0)
  | .int i, .int j => i == j
  | .str x, .str y => x == y
  | .lst xs, .lst ys => eqBs xs ys
  | .tup xs, .tup ys => eqBs xs ys
  | _, _ => false
def eqBs : List D → List D → Bool
  | [], [] => true
  | x :: xs, y :: ys => eqB x y && eqBs xs ys
  | _, _ => false
end
mutual
/-- data: no object, no cell; n bounds the depth -/
def dat : D → Nat → Bool
  | .non, _ | .bl _, _ | .int _, _ => true
  | .str s, _ => s.cps.all (· < 0x110000)
  | .tup xs, n + 1 => dats xs n
  | .lst xs, n + 1 => dats xs n
  | _, _ => false
def dats : List D → Nat → Bool
  | [], _ => true
  | x :: xs, n => dat x n && dats xs n
end
/-- a passing list read where it stands -/
def rd (S : Sto) : D → D
  | .loc k => match S[k]? with
    | some (.lst xs) => .lst xs
    | _ => .loc k
  | d => fz d

abbrev Cl := Nat → List D → Sto → R D
def Prog.eqOf (G : Prog) : D → Option Nat
  | .obj k _ => match G.clss[k]? with
    | some c => c.eq
    | none => none
  | _ => none
def Prog.isObj : D → Bool
  | .obj _ _ => true
  | _ => false
def Prog.opOf (G : Prog) (op : Bi) : D → Option (Nat × Nat)
  | .obj k _ => match G.clss[k]? with
    | some c => match c.ops.find? (fun p => p.1 == op) with
      | some p => some p.2
      | none => none
    | none => none
  | _ => none
def mulOk (i j : Int) : Prop := i.natAbs.log2 + j.natAbs.log2 < 100000000
instance (i j : Int) : Decidable (mulOk i j) := by unfold mulOk; infer_instance
def divOk (j : Int) : Prop := j ≠ 0 ∧ j.natAbs.log2 < 9000
instance (j : Int) : Decidable (divOk j) := by unfold divOk; infer_instance
def powOk (i j : Int) : Prop := 0 ≤ j ∧ j ≤ 1000000 ∧ i.natAbs < 2 ^ 64
instance (i j : Int) : Decidable (powOk i j) := by unfold powOk; infer_instance

def binI (op : Bi) (i j : Int) (S : Sto) : R D := match op with
  | .add => .ok (.int (i + j)) S
  | .sub => .ok (.int (i - j)) S
  | .mul => if mulOk i j then .ok (.int (i * j)) S else .bad
  | .fdiv => if divOk j then .ok (.int (i.fdiv j)) S else .bad
  | .mod => if j ≠ 0 then .ok (.int (i.fmod j)) S else .bad
  | .pow => if powOk i j then .ok (.int (i ^ j.toNat)) S else .bad
def binS (S : Sto) (op : Bi) (x y : D) : R D := match op, x, y with
  | .add, .tup xs, .tup ys => if xs.length + ys.length ≤ LIM then .ok (.tup (xs ++ ys)) S else .bad
  | .add, .lst xs, .lst ys => if xs.length + ys.length ≤ LIM then .ok (.new (xs ++ ys)) S else .bad
  | .mul, .lst xs, .int k => if 0 ≤ k ∧ k ≤ (LIM : Int) ∧ xs.length * k.toNat ≤ LIM then .ok (.new (List.replicate k.toNat xs).flatten) S else .bad
  | _, _, _ => .bad
def binL (cl : Cl) (k : Nat) (fs : List D) (y : D) (S : Sto) : Option (Nat × Nat) → R D
  | some p => match y with
    | .int j => cl p.1 [.obj k fs, .int j] S
    | .obj j gs => if j = k then cl p.1 [.obj k fs, .obj j gs] S else .bad
    | _ => .bad
  | none => .bad
def rOk : Bi → Bool
  | .add | .sub | .mul => true
  | _ => false
def binRt (cl : Cl) (op : Bi) (k : Nat) (fs : List D) (i : Int) (S : Sto) : Option (Nat × Nat) → R D
  | some p => if rOk op then cl p.2 [.obj k fs, .int i] S else .bad
  | none => .bad
def binD (G : Prog) (cl : Cl) (op : Bi) (x y : D) (S : Sto) : R D := match x, y with
  | .int i, .int j => binI op i j S
  | .int i, .obj k fs => binRt cl op k fs i S (G.opOf op (.obj k fs))
  | .obj k fs, y => binL cl k fs y S (G.opOf op (.obj k fs))
  | x, y => binS S op (fz x) (fz y)
def cmpI (op : Cm) (i j : Int) : Option Bool := match op with
  | .lt => some (decide (i < j))
  | .le => some (decide (i ≤ j))
  | .gt => some (decide (j < i))
  | .ge => some (decide (j ≤ i))
  | _ => none
def flat : D → Bool
  | .non | .bl _ | .int _ | .str _ => true
  | _ => false
def lexLt : List D → List D → Option Bool
  | [], [] => some false
  | [], .int _ :: _ => some true
  | .int _ :: _, [] => some false
  | .int i :: xs, .int j :: ys => if i = j then lexLt xs ys else some (decide (i < j))
  | _, _ => none
/-- an own class that is no exception -/
def Prog.cls? (G : Prog) (k : Nat) : Bool := match G.clss[k]? with
  | some c => !c.exc
  | none => false
/-- what may stand on the other side of an own operator -/
def cmpOk (G : Prog) (S : Sto) : D → Bool
  | .obj j _ => G.cls? j
  | .loc k => (seqOf S (.loc k)).isSome
  | .exn _ _ => false
  | _ => true
def kBl (x : D) (S : Sto) : R D := match x with
  | .bl b => .ok (.bl b) S
  | _ => .bad
def kOwn (cl : Cl) (f : Nat) (S : Sto) : Option (List D) → R D
  | some ds => (cl f ds S).bind kBl
  | none => .bad
/-- what stands left of an own == that is asked for it -/
def leftOk : D → Bool
  | .int _ => true
  | .bl _ => true
  | _ => false
/-! ### == of tuples whose items are compared by the text -/
def isIntD : D → Bool
  | .int _ => true
  | _ => false
def objR (fs gs : List D) : R D → Option Bool
  | .ok (.bl r) [] => if eqBs fs gs && !r then none else some r
  | _ => none
def objT (G : Prog) (cl : Cl) (k : Nat) (fs gs : List D) : Option Bool := match G.eqOf (.obj k fs) with
  | some f => match G.defs[f]? with
    | some d => if d.np = 2 ∧ fs.all isIntD = true ∧ gs.all isIntD = true ∧ fs.length = gs.length then objR fs gs (cl f [.obj k fs, .obj k gs] []) else none
    | none => none
  | none => none
def itemT (G : Prog) (cl : Cl) (x y : D) : Option Bool := match x, y with
  | .obj k fs, .obj j gs => if k = j then objT G cl k fs gs else none
  | x, y => if flat x && flat y then some (eqB x y) else none
def allT (e : D → D → Option Bool) : List D → List D → Option Bool
  | [], [] => some true
  | x :: xs, y :: ys => match e x y with
    | some true => allT e xs ys
    | some false => if xs.length = ys.length then some false else none
    | none => none
  | _, _ => none
def lstT : Option Bool → Option Bool
  | some true => some true
  | _ => none
def eqT (G : Prog) (cl : Cl) : Nat → D → D → Option Bool
  | n + 1, .tup xs, .tup ys => allT (eqT G cl n) xs ys
  | n + 1, .lst xs, .lst ys => lstT (allT (eqT G cl n) xs ys)
  | _, x, y => itemT G cl x y
def eqnR (S : Sto) : Option Bool → R D
  | some b => .ok (.bl b) S
  | none => .bad
def eqD (G : Prog) (cl : Cl) (x y : D) (S : Sto) : R D := match G.eqOf x with
  | some f => if cmpOk G S y then kOwn cl f S (fzs [x, y]) else .bad
  | none => match G.eqOf y with
    | some f => if leftOk x then kOwn cl f S (fzs [y, x]) else .bad
    | none => match x, y with
      | .dic0, .dic0 => .ok (.bl true) S
      | x, y => if dat (rd S x) 60 && dat (rd S y) 60 then .ok (.bl (eqB (rd S x) (rd S y))) S else .bad
def cmpD (G : Prog) (cl : Cl) (op : Cm) (x y : D) (S : Sto) : R D := match op with
  | .eq => eqD G cl x y S
  | .ne => match x, y with
    | .dic0, .dic0 => .ok (.bl false) S
    | x, y => if dat (rd S x) 60 && dat (rd S y) 60 then .ok (.bl (!eqB (rd S x) (rd S y))) S else .bad
  | .isn => match x with
    | .exn _ _ => .bad
    | .non => .ok (.bl true) S
    | _ => .ok (.bl false) S
  | .notn => match x with
    | .exn _ _ => .bad
    | .non => .ok (.bl false) S
    | _ => .ok (.bl true) S
  | .isb b => match x with
    | .bl c => .ok (.bl (c == b)) S
    | _ => .bad
  | .isnb b => match x with
    | .bl c => .ok (.bl (!(c == b))) S
    | _ => .bad
  | .eqn => match x, y with
    | .tup xs, .tup ys => eqnR S (eqT G cl 3 (.tup xs) (.tup ys))
    | .lst xs, .lst ys => eqnR S (eqT G cl 3 (.lst xs) (.lst ys))
    | .lst xs, .new ys => eqnR S (eqT G cl 3 (.lst xs) (.lst ys))
    | x, y => eqD G cl x y S
  | .eq0 => match x, y with
    | .tup xs, .tup [] => .ok (.bl xs.isEmpty) S
    | _, _ => .bad
  | .isin => match seqOf S y with
    | some ys => if flat x && ys.all flat then .ok (.bl (ys.any fun z => eqB z x)) S else .bad
    | none => .bad
  | .notin => match seqOf S y with
    | some ys => if flat x && ys.all flat then .ok (.bl (!ys.any fun z => eqB z x)) S else .bad
    | none => .bad
  | op => match x, y with
    | .int i, .int j => match cmpI op i j with
      | some b => .ok (.bl b) S
      | none => .bad
    | _, _ => .bad
def cutD (xs : List D) (lo hi : Option Int) : List D := (xs.drop (HT.sIx xs.length 0 lo)).take (HT.sIx xs.length xs.length hi - HT.sIx xs.length 0 lo)
def blsOf : List D → Option (List Bool)
  | [] => some []
  | .bl b :: r => (blsOf r).map (b :: ·)
  | _ => none
def isL : D → Option (List D)
  | .lst xs | .new xs | .own _ xs => some xs
  | _ => none
def allR (S : Sto) : Option (List Bool) → R D
  | some bs => .ok (.bl (bs.all id)) S
  | none => .bad
def btD (b : Bt) (ds : List D) (S : Sto) : R D := match b, ds with
  | .len, [.str s] => if s.length ≤ LIM then .ok (.int s.length) S else .bad
  | .len, [x] => match seqOf S x with
    | some xs => .ok (.int xs.length) S
    | none => .bad
  | .abs, [.int i] => .ok (.int (if i < 0 then -i else i)) S
  | .int, [.int i] => .ok (.int i) S
  | .int, [.bl c] => .ok (.int (if c then 1 else 0)) S
  | .bool, [.int i] => .ok (.bl (i != 0)) S
  | .bool, [.bl c] => .ok (.bl c) S
  | .list, [x] => match seqOf S x with
    | some xs => .ok (.new xs) S
    | none => .bad
  | .tuple, [.tup xs] => .ok (.tup xs) S
  | .tuple, [x] => match seqOf S x with
    | some xs => .ok (.tup xs) S
    | none => .bad
  | .all, [x] => allR S ((isL x).bind blsOf)
  | .max2, [.int i, .int j] => .ok (.int (if j > i then j else i)) S
  | .min2, [.int i, .int j] => .ok (.int (if j < i then j else i)) S
  | _, _ => .bad
def isiB (G : Prog) (x : D) (k : Ck) : Option Bool := match x, k with
  | .non, .ty n => if n = "int" ∨ n = "bool" ∨ n = "str" ∨ n = "tuple" ∨ n = "list" ∨ n = "dict" then some false else none
  | .bl _, .ty n => if n = "int" ∨ n = "bool" then some true else if n = "str" ∨ n = "tuple" ∨ n = "list" ∨ n = "dict" then some false else none
  | .int _, .ty n => if n = "int" then some true else if n = "bool" ∨ n = "str" ∨ n = "tuple" ∨ n = "list" ∨ n = "dict" then some false else none
  | .str _, .ty n => if n = "str" then some true else if n = "bool" ∨ n = "int" ∨ n = "tuple" ∨ n = "list" ∨ n = "dict" then some false else none
  | .tup _, .ty n => if n = "tuple" then some true else if n = "bool" ∨ n = "int" ∨ n = "str" ∨ n = "list" ∨ n = "dict" then some false else none
  | .scr _, .ty n | .lst _, .ty n | .new _, .ty n | .own _ _, .ty n | .loc _, .ty n => if n = "list" then some true else if n = "bool" ∨ n = "int" ∨ n = "str" ∨ n = "tuple" ∨ n = "dict" then some false else none
  | .dic0, .ty n => if n = "dict" then some true else if n = "bool" ∨ n = "int" ∨ n = "str" ∨ n = "tuple" ∨ n = "list" then some false else none
  | .obj c _, .ty n => if G.cls? c = false then none else if n = "list" ∨ n = "bool" ∨ n = "int" ∨ n = "str" ∨ n = "tuple" ∨ n = "dict" then some false else none
  | .exn _ _, .ty n => if n = "ValueError" then some true else none
  | .non, .own _ | .bl _, .own _ | .int _, .own _ | .str _, .own _ | .tup _, .own _ | .lst _, .own _ | .new _, .own _ | .own _ _, .own _ | .loc _, .own _ | .dic0, .own _ | .scr _, .own _ => some false
  | .obj c _, .own k => if G.cls? c && G.cls? k then some (decide (c = k)) else none
  | .exn c _, .own k => some (decide ((c, k) ∈ G.subs))
def fpos (G : Prog) (k f : Nat) : Option Nat := match G.clss[k]?, G.attrs[f]? with
  | some c, some a => c.fields.idxOf? a
  | _, _ => none
def fldD (G : Prog) (k : Nat) (fs : List D) (f : Nat) (S : Sto) : R D := match fpos G k f with
  | some p => match fs[p]? with
    | some d => .ok d S
    | none => .bad
  | none => .bad
def Prog.exc? (G : Prog) (k : Nat) : Bool := match G.clss[k]? with
  | some c => c.exc
  | none => false
def attrD (G : Prog) (x : D) (f : Nat) (S : Sto) : R D := match x with
  | .obj k fs => if G.cls? k then fldD G k fs f S else .bad
  | .exn k fs => if G.exc? k then fldD G k fs f S else .bad
  | .loc l => match S[l]? with
    | some (.ins k fs) => if G.cls? k then fldD G k fs f S else .bad
    | _ => .bad
  | _ => .bad
def clsOf : D → Sto → Option Nat
  | .obj k _, _ => some k
  | .loc l, S => match S[l]? with
    | some (.ins k _) => some k
    | _ => none
  | _, _ => none

mutual
/-- no cell within -/
def nol : D → Bool
  | .loc _ => false
  | .own _ _ => false
  | .exn _ _ => false
  | .tup xs => nols xs
  | .scr _ => false
  | .lst xs => nols xs
  | .new xs => nols xs
  | .obj _ fs => nols fs
  | _ => true
def nols : List D → Bool
  | [] => true
  | d :: ds => nol d && nols ds
end
def nflds (G : Prog) (k : Nat) : Nat := match G.clss[k]? with
  | some c => c.fields.length
  | none => 0

def methOf (G : Prog) (x : D) (S : Sto) (m : Nat) : Option Nat := match clsOf x S with
  | some k => match G.clss[k]? with
    | some c => match c.meths.find? (fun p => p.1 == m) with
      | some p => some p.2
      | none => none
    | none => none
  | none => none

/-! ### stores -/
def wipeE (ρ : Ev) : List Nat → Ev
  | [] => ρ
  | v :: vs => (wipeE ρ vs).set v .emp
def setAll (ρ : Ev) : List Nat → List D → Option Ev
  | [], [] => some ρ
  | i :: is, d :: ds => setAll (ρ.set i (.val d)) is ds
  | _, _ => none
def bindT (ρ : Ev) : Tg → D → Option Ev
  | .nm i, d => if still d then some (ρ.set i (.val (fz d))) else none
  | .tp is, .tup ds => setAll ρ is ds
  | .tp is, .new ds => setAll ρ is ds
  | .tp is, .lst ds => setAll ρ is ds
  | _, _ => none

/-- how a source is walked -/
inductive It where
  | fix (xs : List D) | ow (xs : List D) | dyn (k : Nat)
def rngD (lo : Int) (n : Nat) : List D := (List.range n).map fun k => D.int (lo + (k : Nat))
def small (i : Int) : Prop := -(2 ^ 62) ≤ i ∧ i < 2 ^ 62
instance (i : Int) : Decidable (small i) := by unfold small; infer_instance
def enumD : Nat → List D → List D
  | _, [] => []
  | i, x :: xs => .tup [.int i, x] :: enumD (i + 1) xs
def zipD : List D → List D → List D
  | x :: xs, y :: ys => .tup [x, y] :: zipD xs ys
  | _, _ => []
def itOf : D → Option It
  | .tup xs | .lst xs | .new xs | .scr xs => some (.fix xs)
  | .own _ xs => some (.ow xs)
  | _ => none

def itList : It → Option (List D)
  | .fix xs | .ow xs => some xs
  | .dyn _ => none

def varD (i : Nat) (S : Sto) : Option Slot → R D
  | some (.val d) => .ok d S
  | some (.own xs) => .ok (.own i xs) S
  | some (.exc k fs) => .ok (.exn k fs) S
  | _ => .bad

/-! ### loops -/
/-- a comprehension's turns -/
def lcAcc (rest : List D → Sto → R D) (acc : List D) (r : Option D) (S : Sto) : R D := match r with
  | some d => if acc.length < LIM then rest (acc ++ [d]) S else .bad
  | none => rest acc S
def lcF (step : D → Sto → R (Option D)) : List D → List D → Sto → R D
  | [], acc, S => .ok (.new acc) S
  | x :: xs, acc, S => (step x S).bind (lcAcc (lcF step xs) acc)
def noErr {α : Type} (r : R α) : R α := match r with
  | .err _ _ _ => .bad
  | r => r
def forF (step : D → Ev → Sto → O) : List D → Ev → Sto → O
  | [], ρ, S => .next ρ S
  | x :: xs, ρ, S => match step x ρ S with
    | .next ρ1 S1 => forF step xs ρ1 S1
    | .cont ρ1 S1 => forF step xs ρ1 S1
    | .brk ρ1 S1 => .next ρ1 S1
    | r => r
def forD (step : D → Ev → Sto → O) (k : Nat) : Nat → Nat → Ev → Sto → O
  | 0, i, ρ, S => match S[k]? with
    | some (.lst xs) => if xs.length ≤ i then .next ρ S else .bad
    | _ => .bad
  | n + 1, i, ρ, S => match S[k]? with
    | some (.lst xs) => match xs[i]? with
      | none => .next ρ S
      | some x => match step x ρ S with
        | .next ρ1 S1 => forD step k n (i + 1) ρ1 S1
        | .cont ρ1 S1 => forD step k n (i + 1) ρ1 S1
        | .brk ρ1 S1 => .next ρ1 S1
        | r => r
    | _ => .bad
def wh (c : Ev → Sto → R Bool) (b : Ev → Sto → O) : Nat → Ev → Sto → O
  | 0, _, _ => .bad
  | n + 1, ρ, S => match c ρ S with
    | .ok false S1 => .next ρ S1
    | .ok true S1 => match b ρ S1 with
      | .next ρ2 S2 => wh c b n ρ2 S2
      | .cont ρ2 S2 => wh c b n ρ2 S2
      | .brk ρ2 S2 => .next ρ2 S2
      | r => r
    | .err k fs S1 => .err k fs ρ S1
    | .bad => .bad
open Classical in
noncomputable def whC (c : Ev → Sto → R Bool) (b : Ev → Sto → O) (ρ : Ev) (S : Sto) : O :=
  if h : ∃ n, wh c b n ρ S ≠ .bad then wh c b (Classical.choose h) ρ S else .bad

/-! ### the rest of an expression, of a statement, behind its first part -/
def kNeg (G : Prog) (cl : Cl) (x : D) (S : Sto) : R D := match x with
  | .int i => .ok (.int (-i)) S
  | .obj k fs => match (G.clss[k]?).bind (·.neg) with
    | some f => cl f [.obj k fs] S
    | none => .bad
  | _ => .bad
def kNot (x : D) (S : Sto) : R D := match truth S x with
  | some b => .ok (.bl (!b)) S
  | none => .bad
def kBin (G : Prog) (cl : Cl) (op : Bi) (eb : Sto → R D) (x : D) (S : Sto) : R D := (eb S).bind (binD G cl op x)
def kCmp (G : Prog) (cl : Cl) (op : Cm) (eb : Sto → R D) (x : D) (S : Sto) : R D := (eb S).bind (cmpD G cl op x)
def kChainC (G : Prog) (cl : Cl) (o2 : Cm) (ec : Sto → R D) (y : D) (z : D) (S : Sto) : R D := match z with
  | .bl true => (ec S).bind (cmpD G cl o2 y)
  | .bl false => .ok (.bl false) S
  | _ => .bad
def kChainB (G : Prog) (cl : Cl) (o1 o2 : Cm) (ec : Sto → R D) (x y : D) (S : Sto) : R D := (cmpD G cl o1 x y S).bind (kChainC G cl o2 ec y)
def kChain (G : Prog) (cl : Cl) (o1 o2 : Cm) (eb ec : Sto → R D) (x : D) (S : Sto) : R D := (eb S).bind (kChainB G cl o1 o2 ec x)
def kAnd (w : Bool) (er : Sto → R D) (x : D) (S : Sto) : R D := match truth S x with
  | some b => if b = w then er S else if still x then .ok (fz x) S else .bad
  | none => .bad
def kIte (ea eb : Sto → R D) (x : D) (S : Sto) : R D := match truth S x with
  | some true => ea S
  | some false => eb S
  | none => .bad
def kCons2 (x : D) (xs : List D) (S : Sto) : R (List D) := .ok (x :: xs) S
def kCons (er : Sto → R (List D)) (x : D) (S : Sto) : R (List D) := (er S).bind (kCons2 x)
def kTup (ds : List D) (S : Sto) : R D := match fzs ds with
  | some xs => if xs.length ≤ LIM then .ok (.tup xs) S else .bad
  | none => .bad
def kLst (ds : List D) (S : Sto) : R D := match fzs ds with
  | some xs => if xs.length ≤ LIM then .ok (.new xs) S else .bad
  | none => .bad
def ixD (x y : D) (S : Sto) : R D := match seqOf S x, y with
  | some xs, .int j => match atI xs j with
    | some d => .ok d S
    | none => .bad
  | _, _ => .bad
def kIx (ei : Sto → R D) (x : D) (S : Sto) : R D := (ei S).bind (ixD x)
def slD (x : D) (l h : Option Int) (S : Sto) : R D := match x with
  | .tup xs => .ok (.tup (cutD xs l h)) S
  | x => match seqOf S x with
    | some xs => .ok (.new (cutD xs l h)) S
    | none => .bad
def kSl2 (eh : Sto → R (Option Int)) (x : D) (l : Option Int) (S : Sto) : R D := (eh S).bind (slD x l)
def kSl (el eh : Sto → R (Option Int)) (x : D) (S : Sto) : R D := (el S).bind (kSl2 eh x)
def kAttr (G : Prog) (f : Nat) (x : D) (S : Sto) : R D := attrD G x f S
def kCall (cl : Cl) (f : Nat) (ds : List D) (S : Sto) : R D := match fzs ds with
  | some xs => cl f xs S
  | none => .bad
/-- an instance made: what its __init__ leaves -/
def mkD (G : Prog) (k : Nat) (S : Sto) : R D → R D
  | .ok .non [.ins k' fs] => if k' = k ∧ nols fs ∧ fs.length = nflds G k then .ok (.obj k fs) S else .bad
  | .err k2 fs _ => if nols fs then .err k2 fs S else .bad
  | _ => .bad
def kMake (G : Prog) (cl : Cl) (k f : Nat) (ds : List D) (S : Sto) : R D := match fzs ds with
  | some xs => if nols xs then mkD G k S (cl f (.loc 0 :: xs) [.ins k []]) else .bad
  | none => .bad
def kMeth2 (cl : Cl) (f : Nat) (x : D) (ds : List D) (S : Sto) : R D := match fzs (x :: ds) with
  | some xs => cl f xs S
  | none => .bad
def kMeth1 (cl : Cl) (er : Sto → R (List D)) (x : D) (S : Sto) : Option Nat → R D
  | some f => (er S).bind (kMeth2 cl f x)
  | none => .bad
def kMeth (G : Prog) (cl : Cl) (m : Nat) (er : Sto → R (List D)) (x : D) (S : Sto) : R D := kMeth1 cl er x S (methOf G x S m)
def isiR (S : Sto) : Option Bool → R D
  | some b => .ok (.bl b) S
  | none => .bad
def kIsi0 (G : Prog) (k : Ck) (x : D) (S : Sto) : R D := if cmpOk G S x then isiR S (isiB G x k) else .bad
def kIsi (G : Prog) (k : Ck) (x : D) (S : Sto) : R D := match x with
  | .exn c fs => if G.exc? c then isiR S (isiB G (.exn c fs) k) else .bad
  | x => kIsi0 G k x S
def kInt (x : D) (S : Sto) : R (Option Int) := match x with
  | .int i => .ok (some i) S
  | _ => .bad
def kTest (x : D) (S : Sto) : R Bool := match truth S x with
  | some b => .ok b S
  | none => .bad
def dynD (k : Nat) (S : Sto) : Option Cell → R It
  | some (.lst _) => .ok (.dyn k) S
  | _ => .bad
def kSeq (x : D) (S : Sto) : R It := match x with
  | .loc k => dynD k S S[k]?
  | x => match itOf x with
    | some t => .ok t S
    | none => .bad
def kRng1 (x : D) (S : Sto) : R It := match x with
  | .int j => if small j then .ok (.fix (rngD 0 j.toNat)) S else .bad
  | _ => .bad
def rngB (x y : D) (S : Sto) : R It := match x, y with
  | .int i, .int j => if small i ∧ small j then .ok (.fix (rngD i (j - i).toNat)) S else .bad
  | _, _ => .bad
def kRng2 (eb : Sto → R D) (x : D) (S : Sto) : R It := (eb S).bind (rngB x)
def isOw : D → Bool
  | .own _ _ => true
  | _ => false
def itW (b : Bool) (xs : List D) : It := if b then .ow xs else .fix xs
def kEnumL (x : D) (S : Sto) : R It := match isL x with
  | some xs => .ok (itW (isOw x) (enumD 0 xs)) S
  | none => .bad
def kRev (x : D) (S : Sto) : R It := match isL x with
  | some xs => .ok (itW (isOw x) xs.reverse) S
  | none => .bad
def kEnum (x : D) (S : Sto) : R It := match x with
  | .tup xs => .ok (.fix (enumD 0 xs)) S
  | x => kEnumL x S
def zipL (x y : D) (S : Sto) : Option (List D) → Option (List D) → R It
  | some xs, some ys => .ok (itW (isOw x || isOw y) (zipD xs ys)) S
  | _, _ => .bad
def zipB (x y : D) (S : Sto) : R It := match x, y with
  | .tup xs, .tup ys => .ok (.fix (zipD xs ys)) S
  | x, y => zipL x y S (isL x) (isL y)
def kZip (eb : Sto → R D) (x : D) (S : Sto) : R It := (eb S).bind (zipB x)
def lcEnd (d : D) (S : Sto) : R (Option D) := if still d then .ok (some (fz d)) S else .bad
def lcTest (el : Sto → R D) (b : Bool) (S : Sto) : R (Option D) := if b then (el S).bind lcEnd else .ok none S
def lcIn (cd : Ev → Sto → R Bool) (el : Ev → Sto → R D) (S : Sto) : Option Ev → R (Option D)
  | some ρ => (cd ρ S).bind (lcTest (el ρ))
  | none => .bad
def lcStep (ρ : Ev) (tg : Tg) (cd : Ev → Sto → R Bool) (el : Ev → Sto → R D) (x : D) (S : Sto) : R (Option D) := lcIn cd el S (bindT ρ tg x)
def lcRun (step : D → Sto → R (Option D)) (S : Sto) : Option (List D) → R D
  | some xs => noErr (lcF step xs [] S)
  | none => .bad
def kComp (step : D → Sto → R (Option D)) (t : It) (S : Sto) : R D := lcRun step S (itList t)

def CE.isNul : CE → Bool
  | .nul => true
  | _ => false
def optI (b : Bool) (e : Sto → R D) (S : Sto) : R (Option Int) := if b then .ok none S else (e S).bind kInt
def tstC (b : Bool) (e : Ev → Sto → R D) (ρ : Ev) (S : Sto) : R Bool := if b then .ok true S else (e ρ S).bind kTest

/-! ### what an expression computes -/
mutual
def evE (G : Prog) (cl : Cl) : CE → Ev → Sto → R D
  | .never, _, _ => .bad
  | .nul, _, _ => .bad
  | .var i, ρ, S => varD i S ρ[i]?
  | .non, _, S => .ok .non S
  | .bl b, _, S => .ok (.bl b) S
  | .int i, _, S => .ok (.int i) S
  | .str s, _, S => .ok (.str s) S
  | .dic0, _, S => .ok .dic0 S
  | .neg a, ρ, S => (evE G cl a ρ S).bind (kNeg G cl)
  | .not a, ρ, S => (evE G cl a ρ S).bind kNot
  | .bin op a b, ρ, S => (evE G cl a ρ S).bind (kBin G cl op (evE G cl b ρ))
  | .cmp op a b, ρ, S => (evE G cl a ρ S).bind (kCmp G cl op (evE G cl b ρ))
  | .cmp2 o1 o2 a b c, ρ, S => (evE G cl a ρ S).bind (kChain G cl o1 o2 (evE G cl b ρ) (evE G cl c ρ))
  | .and es, ρ, S => evAnd G cl true es ρ S
  | .or es, ρ, S => evAnd G cl false es ρ S
  | .ite c a b, ρ, S => (evE G cl c ρ S).bind (kIte (evE G cl a ρ) (evE G cl b ρ))
  | .tup es, ρ, S => (evEs G cl es ρ S).bind kTup
  | .lst es, ρ, S => (evEs G cl es ρ S).bind kLst
  | .ix a i, ρ, S => (evE G cl a ρ S).bind (kIx (evE G cl i ρ))
  | .sl a lo hi, ρ, S => (evE G cl a ρ S).bind (kSl (optI lo.isNul (evE G cl lo ρ)) (optI hi.isNul (evE G cl hi ρ)))
  | .attr a f, ρ, S => (evE G cl a ρ S).bind (kAttr G f)
  | .call f es, ρ, S => (evEs G cl es ρ S).bind (kCall cl f)
  | .make k f es, ρ, S => (evEs G cl es ρ S).bind (kMake G cl k f)
  | .meth a m es, ρ, S => (evE G cl a ρ S).bind (kMeth G cl m (evEs G cl es ρ))
  | .blt b es, ρ, S => (evEs G cl es ρ S).bind (btD b)
  | .isi a k, ρ, S => (evE G cl a ρ S).bind (kIsi G k)
  | .comp vs tg it cd el, ρ, S => (evI G cl it ρ S).bind (kComp (lcStep (wipeE ρ vs) tg (tstC cd.isNul (evE G cl cd)) (evE G cl el)))
def evAnd (G : Prog) (cl : Cl) (w : Bool) : CEs → Ev → Sto → R D
  | .nil, _, _ => .bad
  | .cons e .nil, ρ, S => evE G cl e ρ S
  | .cons e (.cons e2 es), ρ, S => (evE G cl e ρ S).bind (kAnd w (evAnd G cl w (.cons e2 es) ρ))
def evEs (G : Prog) (cl : Cl) : CEs → Ev → Sto → R (List D)
  | .nil, _, S => .ok [] S
  | .cons e es, ρ, S => (evE G cl e ρ S).bind (kCons (evEs G cl es ρ))
def evI (G : Prog) (cl : Cl) : CI → Ev → Sto → R It
  | .seq e, ρ, S => (evE G cl e ρ S).bind kSeq
  | .range1 a, ρ, S => (evE G cl a ρ S).bind kRng1
  | .range2 a b, ρ, S => (evE G cl a ρ S).bind (kRng2 (evE G cl b ρ))
  | .enum e, ρ, S => (evE G cl e ρ S).bind kEnum
  | .zip a b, ρ, S => (evE G cl a ρ S).bind (kZip (evE G cl b ρ))
  | .rev e, ρ, S => (evE G cl e ρ S).bind kRev
end

/-! ### statements -/
def setaD (G : Prog) (S : Sto) (o : D) (f : Nat) (d : D) : Option Sto := match o with
  | .loc l => match S[l]? with
    | some (.ins k fs) => if G.cls? k then match fpos G k f with
      | some p => if p < fs.length then some (S.set l (.ins k (fs.set p d))) else if p = fs.length then some (S.set l (.ins k (fs ++ [d]))) else none
      | none => none
      else none
    | _ => none
  | _ => none
def stO (ρ : Ev) (S : Sto) (i : Nat) : Option (List D) → O
  | some ys => .next (ρ.set i (.own ys)) S
  | none => .bad
def stL (ρ : Ev) (S : Sto) (l : Nat) : Option (List D) → O
  | some ys => .next ρ (S.set l (.lst ys))
  | none => .bad
def storD (ρ : Ev) (S : Sto) (f : List D → Option (List D)) : D → O
  | .loc l => match S[l]? with
    | some (.lst xs) => stL ρ S l (f xs)
    | _ => .bad
  | _ => .bad
def R.b {α : Type} (ρ : Ev) (r : R α) (f : α → Sto → O) : O := match r with
  | .ok a S => f a S
  | .err k fs S => .err k fs ρ S
  | .bad => .bad
def O.bind (o : O) (f : Ev → Sto → O) : O := match o with
  | .next ρ S => f ρ S
  | o => o
def Prog.subB (G : Prog) (k h : Nat) : Bool := decide ((k, h) ∈ G.subs)
def hasX : Ev → Bool
  | [] => false
  | .exc _ _ :: _ => true
  | _ :: r => hasX r
def isX : D → Bool
  | .exn _ _ => true
  | _ => false
/-- behind a suite no slot holds an exception -/
def nxC (ρ : Ev) (o : O) : O := if hasX ρ then .bad else o
def clrE (nm : Option Nat) (ρ : Ev) : Ev := match nm with
  | none => ρ
  | some i => ρ.set i .emp
def clr (nm : Option Nat) : O → O
  | .next ρ S => nxC (clrE nm ρ) (.next (clrE nm ρ) S)
  | .brk ρ S => nxC (clrE nm ρ) (.brk (clrE nm ρ) S)
  | .cont ρ S => nxC (clrE nm ρ) (.cont (clrE nm ρ) S)
  | .ret d S => if isX d then .bad else .ret d S
  | _ => .bad
def sSet (i : Nat) (ρ : Ev) (d : D) (S : Sto) : O := if still d then .next (ρ.set i (.val (fz d))) S else .bad
def sSetO (i : Nat) (ρ : Ev) (d : D) (S : Sto) : O := match d with
  | .new xs => .next (ρ.set i (.own xs)) S
  | _ => .bad
def sSetL (i : Nat) (ρ : Ev) (d : D) (S : Sto) : O := match d with
  | .new xs => .next (ρ.set i (.val (.loc S.length))) (S ++ [.lst xs])
  | _ => .bad
def nextO (S : Sto) : Option Ev → O
  | some ρ => .next ρ S
  | none => .bad
def sSetT (is : List Nat) (ρ : Ev) (d : D) (S : Sto) : O := match d with
  | .tup xs => nextO S (setAll ρ is xs)
  | .new xs => nextO S (setAll ρ is xs)
  | .lst xs => nextO S (setAll ρ is xs)
  | _ => .bad
def sPar2 (i j : Nat) (ρ : Ev) (x y : D) (S : Sto) : O := if still x && still y then .next ((ρ.set i (.val (fz x))).set j (.val (fz y))) S else .bad
def sPar (i j : Nat) (ρ : Ev) (eb : Sto → R D) (x : D) (S : Sto) : O := (eb S).b ρ (sPar2 i j ρ x)
def nextS (ρ : Ev) : Option Sto → O
  | some S => .next ρ S
  | none => .bad
def sAttr2 (G : Prog) (f : Nat) (ρ : Ev) (d x : D) (S : Sto) : O := if still d then nextS ρ (setaD G S x f (fz d)) else .bad
def sAttr (G : Prog) (f : Nat) (ρ : Ev) (eo : Sto → R D) (d : D) (S : Sto) : O := (eo S).b ρ (sAttr2 G f ρ d)
def putD (i : Int) (d : D) (xs : List D) : Option (List D) := (ixN xs.length i).map fun j => xs.set j d
def sItem3 (ρ : Ev) (d x y : D) (S : Sto) : O := if still d then match y with
    | .int i => storD ρ S (putD i (fz d)) x
    | _ => .bad
  else .bad
def sItem2 (ρ : Ev) (ek : Sto → R D) (d x : D) (S : Sto) : O := (ek S).b ρ (sItem3 ρ d x)
def sItem (ρ : Ev) (eo ek : Sto → R D) (d : D) (S : Sto) : O := (eo S).b ρ (sItem2 ρ ek d)
def appD (d : D) (xs : List D) : Option (List D) := if xs.length < LIM then some (xs ++ [d]) else none
def sApp2 (ρ : Ev) (x d : D) (S : Sto) : O := if still d then storD ρ S (appD (fz d)) x else .bad
def sAppC (ρ : Ev) (ee : Sto → R D) (x : D) (S : Sto) : Option Cell → O
  | some (.lst _) => (ee S).b ρ (sApp2 ρ x)
  | _ => .bad
def sApp (ρ : Ev) (ee : Sto → R D) (x : D) (S : Sto) : O := match x with
  | .loc l => sAppC ρ ee (.loc l) S S[l]?
  | _ => .bad
def stOw (ρ : Ev) (S : Sto) (i : Nat) (f : List D → Option (List D)) : Option Slot → O
  | some (.own xs) => stO ρ S i (f xs)
  | _ => .bad
def sAppO (i : Nat) (ρ : Ev) (d : D) (S : Sto) : O := if still d then stOw ρ S i (appD (fz d)) ρ[i]? else .bad
def sItemO2 (i : Nat) (ρ : Ev) (d y : D) (S : Sto) : O := if still d then match y with
    | .int j => stOw ρ S i (putD j (fz d)) ρ[i]?
    | _ => .bad
  else .bad
def sItemO (i : Nat) (ρ : Ev) (ek : Sto → R D) (d : D) (S : Sto) : O := (ek S).b ρ (sItemO2 i ρ d)
def ownC (k : O) : Option Slot → O
  | some (.own _) => k
  | _ => .bad
def retOw (i : Nat) (S : Sto) : Option Slot → O
  | some (.own xs) => .ret (.own i xs) S
  | _ => .bad
def sExpr (ρ : Ev) (_ : D) (S : Sto) : O := .next ρ S
def sRet (d : D) (S : Sto) : O := if isOw d then .bad else .ret d S
def sIte (ρ : Ev) (a b : Ev → Sto → O) (x : D) (S : Sto) : O := match truth S x with
  | some true => a ρ S
  | some false => b ρ S
  | none => .bad
def forB (b : Ev → Sto → O) (S : Sto) : Option Ev → O
  | some ρ => b ρ S
  | none => .bad
def forStep (tg : Tg) (b : Ev → Sto → O) (x : D) (ρ : Ev) (S : Sto) : O := forB b S (bindT ρ tg x)
def sFor (tg : Tg) (b : Ev → Sto → O) (ρ : Ev) (t : It) (S : Sto) : O := match t with
  | .fix xs => forF (forStep tg b) xs ρ S
  | .dyn k => match S[k]? with
    | some (.lst xs) => forD (forStep tg b) k xs.length 0 ρ S
    | _ => .bad
  | .ow _ => .bad
def sRaise (G : Prog) (k : Nat) (ρ : Ev) (ds : List D) (S : Sto) : O := match fzs ds with
  | some xs => if xs.length = nflds G k then .err k xs ρ S else .bad
  | none => .bad
def hdlE (nm : Option Nat) (k : Nat) (fs : List D) (ρ : Ev) : Ev := match nm with
  | none => ρ
  | some i => ρ.set i (.exc k fs)
def sTry (G : Prog) (k : Nat) (nm : Option Nat) (h : Ev → Sto → O) : O → O
  | .err k1 fs ρ1 S1 => if (G.exc? k1 && G.exc? k) = false then .bad else if G.subB k1 k then clr nm (h (hdlE nm k1 fs ρ1) S1) else .err k1 fs ρ1 S1
  | o => o
def frzD (i : Nat) (ρ : Ev) (S : Sto) (r : Ev → Sto → O) : Option Slot → O
  | some (.own xs) => r (ρ.set i (.val (.lst xs))) S
  | _ => .bad

mutual
noncomputable def evS (G : Prog) (cl : Cl) : CS → Ev → Sto → O
  | .never, _, _ => .bad
  | .set i e, ρ, S => (evE G cl e ρ S).b ρ (sSet i ρ)
  | .setO i e, ρ, S => (evE G cl e ρ S).b ρ (sSetO i ρ)
  | .setL i e, ρ, S => (evE G cl e ρ S).b ρ (sSetL i ρ)
  | .setT is e, ρ, S => (evE G cl e ρ S).b ρ (sSetT is ρ)
  | .par i j a b, ρ, S => (evE G cl a ρ S).b ρ (sPar i j ρ (evE G cl b ρ))
  | .seta o f e, ρ, S => (evE G cl e ρ S).b ρ (sAttr G f ρ (evE G cl o ρ))
  | .seti o k e, ρ, S => (evE G cl e ρ S).b ρ (sItem ρ (evE G cl o ρ) (evE G cl k ρ))
  | .app o e, ρ, S => (evE G cl o ρ S).b ρ (sApp ρ (evE G cl e ρ))
  | .expr e, ρ, S => (evE G cl e ρ S).b ρ (sExpr ρ)
  | .ret e, ρ, S => (evE G cl e ρ S).b ρ sRet
  | .retN, _, S => .ret .non S
  | .pass, ρ, S => .next ρ S
  | .brk, ρ, S => .brk ρ S
  | .cont, ρ, S => .cont ρ S
  | .ite c a b, ρ, S => (evE G cl c ρ S).b ρ (sIte ρ (evB G cl a) (evB G cl b))
  | .for_ tg it b, ρ, S => (evI G cl it ρ S).b ρ (sFor tg (evB G cl b) ρ)
  | .while_ c b, ρ, S => whC (tstC false (evE G cl c)) (evB G cl b) ρ S
  | .raise k es, ρ, S => (evEs G cl es ρ S).b ρ (sRaise G k ρ)
  | .retO i, ρ, S => retOw i S ρ[i]?
  | .appO i e, ρ, S => ownC ((evE G cl e ρ S).b ρ (sAppO i ρ)) ρ[i]?
  | .setiO i k e, ρ, S => ownC ((evE G cl e ρ S).b ρ (sItemO i ρ (evE G cl k ρ))) ρ[i]?
  | .try_ b k nm h, ρ, S => sTry G k nm (evB G cl h) (evB G cl b ρ S)
noncomputable def evB (G : Prog) (cl : Cl) : CB → Ev → Sto → O
  | .nil, ρ, S => .next ρ S
  | .cons s r, ρ, S => (evS G cl s ρ S).bind (evB G cl r)
  | .frz i r, ρ, S => frzD i ρ S (evB G cl r) ρ[i]?
end
/-- what a def gives back: its own lists at rest, its own cells gone -/
def finD : D → D
  | .own _ xs => .new xs
  | d => d
def fin (n : Nat) : O → R D
  | .ret d S => if S.length = n then .ok (finD d) S else if n = 0 ∧ nol d then .ok d [] else .bad
  | .next _ S => if S.length = n then .ok .non S else if n = 0 then .ok .non [] else .bad
  | .err k fs _ S => if S.length = n then .err k fs S else if n = 0 ∧ nols fs then .err k fs [] else .bad
  | _ => .bad
noncomputable def callD (G : Prog) (cl : Cl) (ds : List D) (S : Sto) : Option DefT → R D
  | some d => if ds.length = d.np then fin S.length (evB G cl d.body (ds.map Slot.val ++ List.replicate (d.N.length - d.np) Slot.emp) S) else .bad
  | none => .bad
noncomputable def call (G : Prog) : Nat → Cl
  | 0, _, _, _ => .bad
  | n + 1, f, ds, S => callD G (call G n) ds S G.defs[f]?

end Tk
/-! Core 3: equations by which a def is run. -/
namespace Tk
open PySem

/-! ### bounds of integers -/
class Bnd (i : Int) (n : outParam Nat) : Prop where
  h : i.natAbs < 2 ^ n
theorem Bnd.mono {i : Int} {n m : Nat} (b : Bnd i n) (h : n ≤ m) : Bnd i m := ⟨Nat.lt_of_lt_of_le b.h (Nat.pow_le_pow_right (by decide) h)⟩
instance bnd_lit (k : Nat) : Bnd (no_index (OfNat.ofNat k : Int)) (Nat.log2 k + 1) := ⟨by
  show (Int.natAbs (k : Int)) < _
  rw [Int.natAbs_natCast]; exact Nat.lt_log2_self⟩
instance bnd_neg {i : Int} {n : Nat} [b : Bnd i n] : Bnd (-i) n := ⟨by rw [Int.natAbs_neg]; exact b.h⟩
theorem two_pow_max (n m : Nat) : 2 ^ n + 2 ^ m ≤ 2 ^ (max n m + 1) := by
  have h1 : 2 ^ n ≤ 2 ^ max n m := Nat.pow_le_pow_right (by decide) (Nat.le_max_left _ _)
  have h2 : 2 ^ m ≤ 2 ^ max n m := Nat.pow_le_pow_right (by decide) (Nat.le_max_right _ _)
  rw [Nat.pow_succ]; omega
instance bnd_add {i j : Int} {n m : Nat} [a : Bnd i n] [b : Bnd j m] : Bnd (i + j) (max n m + 1) := ⟨by
  have := two_pow_max n m; have := a.h; have := b.h; omega⟩
instance bnd_sub {i j : Int} {n m : Nat} [a : Bnd i n] [b : Bnd j m] : Bnd (i - j) (max n m + 1) := ⟨by
  have := two_pow_max n m; have := a.h; have := b.h; omega⟩
instance bnd_mul {i j : Int} {n m : Nat} [a : Bnd i n] [b : Bnd j m] : Bnd (i * j) (n + m) := ⟨by
  rw [Int.natAbs_mul, Nat.pow_add]; exact Nat.mul_lt_mul'' a.h b.h⟩
theorem natAbs_fdiv_le (i j : Int) : (i.fdiv j).natAbs ≤ i.natAbs + 1 := by
  by_cases hj : j = 0
  · subst hj; simp
  · have h := Int.fdiv_eq_ediv_of_dvd (a := i - i.fmod j) (b := j)
    rw [Int.fdiv_eq_ediv]
    have h1 : (i / j).natAbs ≤ i.natAbs := Int.natAbs_ediv_le_natAbs i j
    split <;> omega
instance bnd_fdiv {i j : Int} {n : Nat} [a : Bnd i n] : Bnd (i.fdiv j) (n + 1) := ⟨by
  have := natAbs_fdiv_le i j; have := a.h; have : 0 < 2 ^ n := Nat.two_pow_pos n; rw [Nat.pow_succ]; omega⟩
instance bnd_fmod {i j : Int} {n m : Nat} [a : Bnd i n] [b : Bnd j m] : Bnd (i.fmod j) (max n m + 1) := ⟨by
  have h1 := a.h
  have h2 := b.h
  have h3 := two_pow_max n m
  by_cases hj : j = 0
  · subst hj
    rw [Int.fmod_zero]; omega
  · have e0 := Int.emod_nonneg i hj
    have e1 := Int.emod_lt i hj
    rw [Int.fmod_eq_emod]
    split <;> omega⟩
instance bnd_abs {i : Int} {n : Nat} [a : Bnd i n] : Bnd (if i < 0 then -i else i) n := ⟨by
  split
  · rw [Int.natAbs_neg]; exact a.h
  · exact a.h⟩
theorem log2_lt {k n : Nat} (h : k < 2 ^ n) : k.log2 ≤ n := by
  by_cases hk : k = 0
  · subst hk; simp
  · exact Nat.le_of_lt ((Nat.log2_lt hk).mpr h)
theorem mulOk_i {i j : Int} {n m : Nat} [a : Bnd i n] [b : Bnd j m] (h : n + m < 100000000) : mulOk i j := by
  have := log2_lt a.h; have := log2_lt b.h; unfold mulOk; omega
theorem divOk_i {j : Int} {n : Nat} [a : Bnd j n] (h0 : j ≠ 0) (h : n < 9000) : divOk j := ⟨h0, by have := log2_lt a.h; omega⟩

/-! ### running -/
section
variable {G : Prog} {cl : Cl} {ρ : Ev} {S : Sto} {α β : Type} {b c : Bool} {i j : Int} {s : Str} {xs ys ds : List D} {x y d : D} {k f n m : Nat}
theorem still_non : still .non = true := rfl
theorem fz_non : fz .non = .non := rfl
theorem finD_non : finD .non = .non := rfl
theorem still_bl : still (.bl b) = true := rfl
theorem fz_bl : fz (.bl b) = (.bl b) := rfl
theorem finD_bl : finD (.bl b) = (.bl b) := rfl
theorem still_int : still (.int i) = true := rfl
theorem fz_int : fz (.int i) = (.int i) := rfl
theorem finD_int : finD (.int i) = (.int i) := rfl
theorem still_str : still (.str s) = true := rfl
theorem fz_str : fz (.str s) = (.str s) := rfl
theorem finD_str : finD (.str s) = (.str s) := rfl
theorem still_tup : still (.tup xs) = true := rfl
theorem fz_tup : fz (.tup xs) = (.tup xs) := rfl
theorem finD_tup : finD (.tup xs) = (.tup xs) := rfl
theorem still_lst : still (.lst xs) = true := rfl
theorem fz_lst : fz (.lst xs) = (.lst xs) := rfl
theorem finD_lst : finD (.lst xs) = (.lst xs) := rfl
theorem still_obj : still (.obj k xs) = true := rfl
theorem fz_obj : fz (.obj k xs) = (.obj k xs) := rfl
theorem finD_obj : finD (.obj k xs) = (.obj k xs) := rfl
theorem still_dic0 : still .dic0 = true := rfl
theorem fz_dic0 : fz .dic0 = .dic0 := rfl
theorem finD_dic0 : finD .dic0 = .dic0 := rfl
theorem still_loc : still (.loc k) = true := rfl
theorem fz_loc : fz (.loc k) = (.loc k) := rfl
theorem finD_loc : finD (.loc k) = (.loc k) := rfl
theorem still_new : still (.new xs) = true := rfl
theorem u_fz_new : fz (.new xs) = .lst xs := rfl
theorem finD_new : finD (.new xs) = .new xs := rfl
theorem finD_own : finD (.own k xs) = .new xs := rfl
theorem fz_own : fz (.own k xs) = .lst xs := rfl
theorem still_own : still (.own k xs) = false := rfl
theorem still_exn : still (.exn k xs) = false := rfl
theorem nol_non : nol .non = true := rfl
theorem nol_bl : nol (.bl b) = true := rfl
theorem nol_int : nol (.int i) = true := rfl
theorem nol_str : nol (.str s) = true := rfl
theorem nol_dic0 : nol .dic0 = true := rfl
theorem nol_obj : nol (.obj k xs) = nols xs := rfl
theorem nol_tup : nol (.tup xs) = nols xs := rfl
theorem nol_lst : nol (.lst xs) = nols xs := rfl
theorem nols_nil : nols [] = true := rfl
theorem nols_cons : nols (x :: xs) = (nol x && nols xs) := rfl
theorem truth_non : truth S .non = some false := rfl
theorem truth_bl : truth S (.bl b) = some b := rfl
theorem truth_int : truth S (.int i) = some (i != 0) := rfl
theorem truth_tup : truth S (.tup xs) = some (!xs.isEmpty) := rfl
theorem seqOf_tup : seqOf S (.tup xs) = some xs := rfl
theorem itOf_tup : itOf (.tup xs) = some (.fix xs) := rfl
theorem truth_lst : truth S (.lst xs) = some (!xs.isEmpty) := rfl
theorem seqOf_lst : seqOf S (.lst xs) = some xs := rfl
theorem itOf_lst : itOf (.lst xs) = some (.fix xs) := rfl
theorem isL_lst : isL (.lst xs) = some xs := rfl
theorem truth_new : truth S (.new xs) = some (!xs.isEmpty) := rfl
theorem seqOf_new : seqOf S (.new xs) = some xs := rfl
theorem itOf_new : itOf (.new xs) = some (.fix xs) := rfl
theorem isL_new : isL (.new xs) = some xs := rfl
theorem truth_own : truth S (.own k xs) = some (!xs.isEmpty) := rfl
theorem seqOf_own : seqOf S (.own k xs) = some xs := rfl
theorem itOf_own : itOf (.own k xs) = some (.ow xs) := rfl
theorem isL_own : isL (.own k xs) = some xs := rfl
theorem isOw_non : isOw .non = false := rfl
theorem isOw_bl : isOw (.bl b) = false := rfl
theorem isOw_int : isOw (.int i) = false := rfl
theorem isOw_str : isOw (.str s) = false := rfl
theorem isOw_tup : isOw (.tup xs) = false := rfl
theorem isOw_obj : isOw (.obj k xs) = false := rfl
theorem isOw_dic0 : isOw .dic0 = false := rfl
theorem isOw_loc : isOw (.loc k) = false := rfl
theorem isOw_exn : isOw (.exn k xs) = false := rfl
theorem isOw_own : isOw (.own k xs) = true := rfl
theorem isOw_new : isOw (.new xs) = false := rfl
theorem isOw_lst : isOw (.lst xs) = false := rfl
theorem isOw_scr : isOw (.scr xs) = false := rfl
theorem itW_t : itW true xs = .ow xs := rfl
theorem itW_f : itW false xs = .fix xs := rfl
theorem kEnum_of (h : isL x = some xs) : kEnum x S = .ok (itW (isOw x) (enumD 0 xs)) S := by
  cases x <;> first | (cases h; done) | (cases h; rfl)
theorem kRev_lst : kRev (.lst xs) S = .ok (.fix xs.reverse) S := rfl
theorem kRev_new : kRev (.new xs) S = .ok (.fix xs.reverse) S := rfl
theorem kEnum_tup : kEnum (.tup xs) S = .ok (.fix (enumD 0 xs)) S := rfl
theorem kEnum_lst : kEnum (.lst xs) S = .ok (.fix (enumD 0 xs)) S := rfl
theorem kEnum_new : kEnum (.new xs) S = .ok (.fix (enumD 0 xs)) S := rfl
theorem enumD4 (a b c d : D) : enumD 0 [a, b, c, d] = [.tup [.int 0, a], .tup [.int 1, b], .tup [.int 2, c], .tup [.int 3, d]] := rfl
theorem zipB_tup : zipB (.tup xs) (.tup ys) S = .ok (.fix (zipD xs ys)) S := rfl
theorem itList_fix : itList (.fix xs) = some xs := rfl
theorem itList_ow : itList (.ow xs) = some xs := rfl
theorem seqOf_loc (h : S[k]? = some (.lst xs)) : seqOf S (.loc k) = some xs := by simp [seqOf, h]
theorem varD_val : varD k S (some (.val d)) = .ok d S := rfl
theorem varD_exc : varD k S (some (.exc n xs)) = .ok (.exn n xs) S := rfl
theorem varD_own : varD k S (some (.own xs)) = .ok (.own k xs) S := rfl
theorem bind_ok (a : α) (g : α → Sto → R β) : (R.ok a S).bind g = g a S := rfl
theorem bind_err (g : α → Sto → R β) : (R.err k ds S).bind g = .err k ds S := rfl
theorem b_ok (a : α) (g : α → Sto → O) : (R.ok a S).b ρ g = g a S := rfl
theorem b_err (g : α → Sto → O) : (R.err k ds S : R α).b ρ g = .err k ds ρ S := rfl
theorem o_next (g : Ev → Sto → O) : (O.next ρ S).bind g = g ρ S := rfl
theorem o_ret (g : Ev → Sto → O) : (O.ret d S).bind g = .ret d S := rfl
theorem o_brk (g : Ev → Sto → O) : (O.brk ρ S).bind g = .brk ρ S := rfl
theorem o_cont (g : Ev → Sto → O) : (O.cont ρ S).bind g = .cont ρ S := rfl
theorem o_err (g : Ev → Sto → O) : (O.err k ds ρ S).bind g = .err k ds ρ S := rfl
theorem noErr_o (a : α) : noErr (R.ok a S) = .ok a S := rfl
theorem fzs_of (h : ds.all still = true) : fzs ds = some (ds.map fz) := by unfold fzs; rw [if_pos h]
theorem binD_int (op : Bi) : binD G cl op (.int i) (.int j) S = binI op i j S := rfl
theorem binI_add : binI .add i j S = .ok (.int (i + j)) S := rfl
theorem binI_sub : binI .sub i j S = .ok (.int (i - j)) S := rfl
theorem binI_mul [Bnd i n] [Bnd j m] (h : n + m < 100000000) : binI .mul i j S = .ok (.int (i * j)) S := by
  show (if mulOk i j then _ else _) = _
  rw [if_pos (mulOk_i h)]
theorem binI_mod (h : j ≠ 0) : binI .mod i j S = .ok (.int (i.fmod j)) S := by
  show (if j ≠ 0 then _ else _) = _
  rw [if_pos h]
theorem binI_fdiv [Bnd j n] (h0 : j ≠ 0) (h : n < 9000) : binI .fdiv i j S = .ok (.int (i.fdiv j)) S := by
  show (if divOk j then _ else _) = _
  rw [if_pos (divOk_i h0 h)]
theorem binI_pow (h : powOk i j) : binI .pow i j S = .ok (.int (i ^ j.toNat)) S := by
  show (if powOk i j then _ else _) = _
  rw [if_pos h]
theorem kTup_of (h : ds.all still = true) (hl : ds.length ≤ LIM) : kTup ds S = .ok (.tup (ds.map fz)) S := by
  unfold kTup; rw [fzs_of h]; simp [hl]
theorem kLst_of (h : ds.all still = true) (hl : ds.length ≤ LIM) : kLst ds S = .ok (.new (ds.map fz)) S := by
  unfold kLst; rw [fzs_of h]; simp [hl]
theorem kCall_of (h : ds.all still = true) : kCall cl f ds S = cl f (ds.map fz) S := by
  unfold kCall; rw [fzs_of h]
theorem kMake_of (h : ds.all still = true) (h2 : nols (ds.map fz) = true) : kMake G cl k f ds S = mkD G k S (cl f (.loc 0 :: ds.map fz) [.ins k []]) := by
  unfold kMake; rw [fzs_of h]; simp [h2]
theorem mkD_ok (h : nols xs = true) (hl : xs.length = nflds G k) : mkD G k S (.ok .non [.ins k xs]) = .ok (.obj k xs) S := by
  unfold mkD; simp [h, hl]
theorem mkD_err {T : Sto} (h : nols xs = true) : mkD G k S (.err m xs T) = .err m xs S := by
  unfold mkD; simp [h]
theorem kAnd_go (h : truth S x = some b) (w : Bool) (e : Sto → R D) (hb : b = w) : kAnd w e x S = e S := by unfold kAnd; rw [h]; simp [hb]
theorem kAnd_tt (e : Sto → R D) : kAnd true e (.bl true) S = e S := rfl
theorem kAnd_tf (e : Sto → R D) : kAnd true e (.bl false) S = .ok (.bl false) S := rfl
theorem kAnd_ft (e : Sto → R D) : kAnd false e (.bl true) S = .ok (.bl true) S := rfl
theorem kAnd_ff (e : Sto → R D) : kAnd false e (.bl false) S = e S := rfl
theorem kIte_t (e e' : Sto → R D) : kIte e e' (.bl true) S = e S := rfl
theorem kIte_f (e e' : Sto → R D) : kIte e e' (.bl false) S = e' S := rfl
theorem kNot_bl : kNot (.bl b) S = .ok (.bl (!b)) S := rfl
theorem kNot_of (h : truth S x = some b) : kNot x S = .ok (.bl (!b)) S := by unfold kNot; rw [h]
theorem sIte_t (g g' : Ev → Sto → O) : sIte ρ g g' (.bl true) S = g ρ S := rfl
theorem sIte_f (g g' : Ev → Sto → O) : sIte ρ g g' (.bl false) S = g' ρ S := rfl
theorem sIte_ot (g g' : Ev → Sto → O) (h : truth S x = some true) : sIte ρ g g' x S = g ρ S := by unfold sIte; rw [h]
theorem sIte_of (g g' : Ev → Sto → O) (h : truth S x = some false) : sIte ρ g g' x S = g' ρ S := by unfold sIte; rw [h]
theorem kNeg_int : kNeg G cl (.int i) S = .ok (.int (-i)) S := rfl
theorem ixD_of (h : seqOf S x = some xs) (h2 : L2.atI xs j = some d) : ixD x (.int j) S = .ok d S := by unfold ixD; rw [h]; simp [h2]
theorem attr_obj (h0 : G.cls? k = true) (h : fpos G k f = some n) (h2 : xs[n]? = some d) : kAttr G f (.obj k xs) S = .ok d S := by unfold kAttr attrD fldD; simp [h0, h, h2]
theorem attr_exn (h0 : G.exc? k = true) (h : fpos G k f = some n) (h2 : xs[n]? = some d) : kAttr G f (.exn k xs) S = .ok d S := by unfold kAttr attrD fldD; simp [h0, h, h2]
theorem kIsi_of (q : Ck) (h0 : cmpOk G S x = true) (h : isiB G x q = some b) : kIsi G q x S = .ok (.bl b) S := by
  cases x with
  | exn c fs => cases h0
  | _ => show kIsi0 G q _ S = _; unfold kIsi0; rw [if_pos h0, h]; rfl
theorem kIsi_exn {k : Nat} {fs : List D} (q : Ck) (h0 : G.exc? k = true) (h : isiB G (.exn k fs) q = some b) : kIsi G q (.exn k fs) S = .ok (.bl b) S := by
  show (if G.exc? k then isiR S (isiB G (.exn k fs) q) else .bad) = _
  rw [if_pos h0, h]; rfl
theorem cmp_lt : cmpD G cl .lt (.int i) (.int j) S = .ok (.bl (decide (i < j))) S := rfl
theorem cmp_le : cmpD G cl .le (.int i) (.int j) S = .ok (.bl (decide (i ≤ j))) S := rfl
theorem cmp_gt : cmpD G cl .gt (.int i) (.int j) S = .ok (.bl (decide (j < i))) S := rfl
theorem cmp_ge : cmpD G cl .ge (.int i) (.int j) S = .ok (.bl (decide (j ≤ i))) S := rfl
theorem cmp_eq_int : cmpD G cl .eq (.int i) (.int j) S = .ok (.bl (decide (i = j))) S := rfl
theorem cmp_ne_int : cmpD G cl .ne (.int i) (.int j) S = .ok (.bl (!decide (i = j))) S := rfl
theorem cmp_eq_bl : cmpD G cl .eq (.bl b) (.bl c) S = .ok (.bl (b == c)) S := by cases b <;> cases c <;> rfl
theorem cmp_ne_bl : cmpD G cl .ne (.bl b) (.bl c) S = .ok (.bl (b != c)) S := by cases b <;> cases c <;> rfl
theorem bt_abs : btD .abs [.int i] S = .ok (.int (if i < 0 then -i else i)) S := rfl
theorem bt_int : btD .int [.int i] S = .ok (.int i) S := rfl
theorem bt_int_bl : btD .int [.bl b] S = .ok (.int (if b then 1 else 0)) S := rfl
theorem bt_len (h : seqOf S x = some xs) : btD .len [x] S = .ok (.int xs.length) S := by cases x <;> first | (simp only [btD, h]; done) | (simp [seqOf] at h; done)
theorem bt_list (h : seqOf S x = some xs) : btD .list [x] S = .ok (.new xs) S := by cases x <;> first | (simp only [btD, h]; done) | (simp [seqOf] at h; done)
theorem bt_tuple_tup : btD .tuple [.tup xs] S = .ok (.tup xs) S := rfl
theorem fin_ret (h : S.length = n) : fin n (.ret d S) = .ok (finD d) S := by unfold fin; simp [h]
theorem fin_next (h : S.length = n) : fin n (.next ρ S) = .ok .non S := by unfold fin; simp [h]
theorem fin_err (h : S.length = n) : fin n (.err k ds ρ S) = .err k ds S := by unfold fin; simp [h]
theorem sSet_of (h : still d = true) : sSet k ρ d S = .next (ρ.set k (.val (fz d))) S := by unfold sSet; simp [h]
theorem sSetO_of : sSetO k ρ (.new xs) S = .next (ρ.set k (.own xs)) S := rfl
theorem sSetL_of : sSetL k ρ (.new xs) S = .next (ρ.set k (.val (.loc S.length))) (S ++ [.lst xs]) := rfl
theorem sPar2_of (h1 : still x = true) (h2 : still y = true) : sPar2 k m ρ x y S = .next ((ρ.set k (.val (fz x))).set m (.val (fz y))) S := by unfold sPar2; simp [h1, h2]
theorem sItem3_of (h : still d = true) : sItem3 ρ d x (.int i) S = storD ρ S (putD i (fz d)) x := by unfold sItem3; simp [h]
theorem stOw_own (g : List D → Option (List D)) : stOw ρ S k g (some (.own xs)) = stO ρ S k (g xs) := rfl
theorem sAppO_of (h : still d = true) : sAppO k ρ d S = stOw ρ S k (appD (fz d)) ρ[k]? := by unfold sAppO; simp [h]
theorem sItemO2_of (h : still d = true) : sItemO2 k ρ d (.int i) S = stOw ρ S k (putD i (fz d)) ρ[k]? := by unfold sItemO2; simp [h]
theorem sItemO_eq (ek : Sto → R D) : sItemO k ρ ek d S = (ek S).b ρ (sItemO2 k ρ d) := rfl
theorem ownC_own (r : O) : ownC r (some (.own xs)) = r := rfl
theorem retOw_own : retOw k S (some (.own xs)) = .ret (.own k xs) S := rfl
theorem storD_loc (g : List D → Option (List D)) (h : S[k]? = some (.lst xs)) : storD ρ S g (.loc k) = stL ρ S k (g xs) := by simp only [storD, h]
theorem stO_some : stO ρ S k (some xs) = .next (ρ.set k (.own xs)) S := rfl
theorem stL_some : stL ρ S k (some xs) = .next ρ (S.set k (.lst xs)) := rfl
theorem putD_of (h : L2.ixN xs.length i = some n) : putD i d xs = some (xs.set n d) := by unfold putD; rw [h]; rfl
theorem sApp2_of (h : still d = true) : sApp2 ρ x d S = storD ρ S (appD (fz d)) x := by unfold sApp2; simp [h]
theorem appD_of (h : xs.length < LIM) : appD d xs = some (xs ++ [d]) := by unfold appD; simp [h]
theorem frzD_own (g : Ev → Sto → O) : frzD k ρ S g (some (.own xs)) = g (ρ.set k (.val (.lst xs))) S := rfl
theorem sRaise_of (h : ds.all still = true) (hl : (ds.map fz).length = nflds G k) : sRaise G k ρ ds S = .err k (ds.map fz) ρ S := by unfold sRaise; rw [fzs_of h]; simp only [hl, if_true]
theorem sFor_fix (tg : Tg) (g : Ev → Sto → O) : sFor tg g ρ (.fix xs) S = forF (forStep tg g) xs ρ S := rfl
theorem forF_nil (g : D → Ev → Sto → O) : forF g [] ρ S = .next ρ S := rfl
def forK (g : D → Ev → Sto → O) (xs : List D) : O → O
  | .next ρ S => forF g xs ρ S
  | .cont ρ S => forF g xs ρ S
  | .brk ρ S => .next ρ S
  | r => r
theorem forF_cons (g : D → Ev → Sto → O) : forF g (x :: xs) ρ S = forK g xs (g x ρ S) := by
  show (match g x ρ S with | .next ρ1 S1 => _ | .cont ρ1 S1 => _ | .brk ρ1 S1 => _ | r => r) = _
  cases g x ρ S <;> rfl
theorem forK_next (g : D → Ev → Sto → O) : forK g xs (.next ρ S) = forF g xs ρ S := rfl
theorem forK_cont (g : D → Ev → Sto → O) : forK g xs (.cont ρ S) = forF g xs ρ S := rfl
theorem forK_brk (g : D → Ev → Sto → O) : forK g xs (.brk ρ S) = .next ρ S := rfl
theorem forK_ret (g : D → Ev → Sto → O) : forK g xs (.ret d S) = .ret d S := rfl
theorem forK_err (g : D → Ev → Sto → O) : forK g xs (.err k ds ρ S) = .err k ds ρ S := rfl
theorem bindT_nm (h : still d = true) : bindT ρ (.nm k) d = some (ρ.set k (.val (fz d))) := by unfold bindT; simp [h]
theorem kComp_of (g : D → Sto → R (Option D)) (t : It) (h : itList t = some xs) : kComp g t S = noErr (lcF g xs [] S) := by unfold kComp lcRun; rw [h]
theorem lcF_nil (g : D → Sto → R (Option D)) : lcF g [] ds S = .ok (.new ds) S := rfl
theorem lcF_cons (g : D → Sto → R (Option D)) : lcF g (x :: xs) ds S = (g x S).bind (lcAcc (lcF g xs) ds) := rfl
theorem lcAcc_some (g : List D → Sto → R D) (h : ds.length < LIM) : lcAcc g ds (some d) S = g (ds ++ [d]) S := by unfold lcAcc; simp [h]
theorem lcAcc_none (g : List D → Sto → R D) : lcAcc g ds none S = g ds S := rfl
theorem lcEnd_of (h : still d = true) : lcEnd d S = .ok (some (fz d)) S := by unfold lcEnd; simp [h]
theorem kSeq_of (t : It) (h : itOf x = some t) : kSeq x S = .ok t S := by
  unfold kSeq
  cases x <;> first | (cases h; done) | (rw [h]; done) | (dsimp only; rw [h])
theorem kSeq_loc : kSeq (.loc k) S = dynD k S S[k]? := rfl
theorem dynD_lst : dynD k S (some (.lst xs)) = .ok (.dyn k) S := rfl
theorem kRng1_of (h : small j) : kRng1 (.int j) S = .ok (.fix (rngD 0 j.toNat)) S := by unfold kRng1; simp [h]
theorem kSl_def (g g' : Sto → R (Option Int)) : kSl g g' x S = (g S).bind (kSl2 g' x) := rfl
theorem kSl2_def (g' : Sto → R (Option Int)) (l : Option Int) : kSl2 g' x l S = (g' S).bind (slD x l) := rfl
theorem lst_len_one : ([x] : List D).length = 1 := rfl
theorem call_succ (G : Prog) (n f : Nat) (ds : List D) (S : Sto) : Tk.call G (n + 1) f ds S = callD G (Tk.call G n) ds S G.defs[f]? := rfl
theorem callD_of (d : DefT) (hl : ds.length = d.np) : callD G cl ds S (some d) = fin S.length (evB G cl d.body (ds.map Slot.val ++ List.replicate (d.N.length - d.np) Slot.emp) S) := by
  unfold callD; simp only [hl, if_true]
end
set_option autoImplicit true
theorem evE_0 : evE G cl CE.never ρ S = .bad := by rw [evE]
theorem evE_1 : evE G cl CE.nul ρ S = .bad := by rw [evE]
theorem evE_2 : evE G cl (CE.var i) ρ S = varD i S ρ[i]? := by rw [evE]
theorem evE_3 : evE G cl CE.non ρ S = .ok .non S := by rw [evE]
theorem evE_4 : evE G cl (CE.bl b) ρ S = .ok (.bl b) S := by rw [evE]
theorem evE_5 : evE G cl (CE.int i) ρ S = .ok (.int i) S := by rw [evE]
theorem evE_6 : evE G cl (CE.str s) ρ S = .ok (.str s) S := by rw [evE]
theorem evE_7 : evE G cl CE.dic0 ρ S = .ok .dic0 S := by rw [evE]
theorem evE_8 : evE G cl (CE.neg a) ρ S = (evE G cl a ρ S).bind (kNeg G cl) := by rw [evE]
theorem evE_9 : evE G cl (CE.not a) ρ S = (evE G cl a ρ S).bind kNot := by rw [evE]
theorem evE_10 : evE G cl (CE.bin op a b) ρ S = (evE G cl a ρ S).bind (kBin G cl op (evE G cl b ρ)) := by rw [evE]
theorem evE_11 : evE G cl (CE.cmp op a b) ρ S = (evE G cl a ρ S).bind (kCmp G cl op (evE G cl b ρ)) := by rw [evE]
theorem evE_12 : evE G cl (CE.cmp2 o1 o2 a b c) ρ S = (evE G cl a ρ S).bind (kChain G cl o1 o2 (evE G cl b ρ) (evE G cl c ρ)) := by rw [evE]
theorem evE_13 : evE G cl (CE.and es) ρ S = evAnd G cl true es ρ S := by rw [evE]
theorem evE_14 : evE G cl (CE.or es) ρ S = evAnd G cl false es ρ S := by rw [evE]
theorem evE_15 : evE G cl (CE.ite c a b) ρ S = (evE G cl c ρ S).bind (kIte (evE G cl a ρ) (evE G cl b ρ)) := by rw [evE]
theorem evE_16 : evE G cl (CE.tup es) ρ S = (evEs G cl es ρ S).bind kTup := by rw [evE]
theorem evE_17 : evE G cl (CE.lst es) ρ S = (evEs G cl es ρ S).bind kLst := by rw [evE]
theorem evE_18 : evE G cl (CE.ix a i) ρ S = (evE G cl a ρ S).bind (kIx (evE G cl i ρ)) := by rw [evE]
theorem evE_19 : evE G cl (CE.sl a lo hi) ρ S = (evE G cl a ρ S).bind (kSl (optI lo.isNul (evE G cl lo ρ)) (optI hi.isNul (evE G cl hi ρ))) := by rw [evE]
theorem evE_20 : evE G cl (CE.attr a f) ρ S = (evE G cl a ρ S).bind (kAttr G f) := by rw [evE]
theorem evE_21 : evE G cl (CE.call f es) ρ S = (evEs G cl es ρ S).bind (kCall cl f) := by rw [evE]
theorem evE_22 : evE G cl (CE.make k f es) ρ S = (evEs G cl es ρ S).bind (kMake G cl k f) := by rw [evE]
theorem evE_23 : evE G cl (CE.meth a m es) ρ S = (evE G cl a ρ S).bind (kMeth G cl m (evEs G cl es ρ)) := by rw [evE]
theorem evE_24 : evE G cl (CE.blt b es) ρ S = (evEs G cl es ρ S).bind (btD b) := by rw [evE]
theorem evE_25 : evE G cl (CE.isi a k) ρ S = (evE G cl a ρ S).bind (kIsi G k) := by rw [evE]
theorem evE_26 : evE G cl (CE.comp vs tg it cd el) ρ S = (evI G cl it ρ S).bind (kComp (lcStep (wipeE ρ vs) tg (tstC cd.isNul (evE G cl cd)) (evE G cl el))) := by rw [evE]
theorem evEs_0 : evEs G cl CEs.nil ρ S = .ok [] S := by rw [evEs]
theorem evEs_1 : evEs G cl (CEs.cons e es) ρ S = (evE G cl e ρ S).bind (kCons (evEs G cl es ρ)) := by rw [evEs]
theorem evAnd_0 : evAnd G cl w CEs.nil ρ S = .bad := by rw [evAnd]
theorem evAnd_1 : evAnd G cl w (CEs.cons e .nil) ρ S = evE G cl e ρ S := by rw [evAnd]
theorem evAnd_2 : evAnd G cl w (CEs.cons e (.cons e2 es)) ρ S = (evE G cl e ρ S).bind (kAnd w (evAnd G cl w (.cons e2 es) ρ)) := by rw [evAnd]
theorem evI_0 : evI G cl (CI.seq e) ρ S = (evE G cl e ρ S).bind kSeq := by rw [evI]
theorem evI_1 : evI G cl (CI.range1 a) ρ S = (evE G cl a ρ S).bind kRng1 := by rw [evI]
theorem evI_2 : evI G cl (CI.range2 a b) ρ S = (evE G cl a ρ S).bind (kRng2 (evE G cl b ρ)) := by rw [evI]
theorem evI_3 : evI G cl (CI.enum e) ρ S = (evE G cl e ρ S).bind kEnum := by rw [evI]
theorem evI_5 : evI G cl (CI.rev e) ρ S = (evE G cl e ρ S).bind kRev := by rw [evI]
theorem evI_4 : evI G cl (CI.zip a b) ρ S = (evE G cl a ρ S).bind (kZip (evE G cl b ρ)) := by rw [evI]
theorem evS_0 : evS G cl CS.never ρ S = .bad := by rw [evS]
theorem evS_1 : evS G cl (CS.set i e) ρ S = (evE G cl e ρ S).b ρ (sSet i ρ) := by rw [evS]
theorem evS_2 : evS G cl (CS.setO i e) ρ S = (evE G cl e ρ S).b ρ (sSetO i ρ) := by rw [evS]
theorem evS_3 : evS G cl (CS.setL i e) ρ S = (evE G cl e ρ S).b ρ (sSetL i ρ) := by rw [evS]
theorem evS_4 : evS G cl (CS.setT is e) ρ S = (evE G cl e ρ S).b ρ (sSetT is ρ) := by rw [evS]
theorem evS_5 : evS G cl (CS.par i j a b) ρ S = (evE G cl a ρ S).b ρ (sPar i j ρ (evE G cl b ρ)) := by rw [evS]
theorem evS_6 : evS G cl (CS.seta o f e) ρ S = (evE G cl e ρ S).b ρ (sAttr G f ρ (evE G cl o ρ)) := by rw [evS]
theorem evS_7 : evS G cl (CS.seti o k e) ρ S = (evE G cl e ρ S).b ρ (sItem ρ (evE G cl o ρ) (evE G cl k ρ)) := by rw [evS]
theorem evS_8 : evS G cl (CS.app o e) ρ S = (evE G cl o ρ S).b ρ (sApp ρ (evE G cl e ρ)) := by rw [evS]
theorem evS_9 : evS G cl (CS.expr e) ρ S = (evE G cl e ρ S).b ρ (sExpr ρ) := by rw [evS]
theorem evS_10 : evS G cl (CS.ret e) ρ S = (evE G cl e ρ S).b ρ sRet := by rw [evS]
theorem evS_11 : evS G cl CS.retN ρ S = .ret .non S := by rw [evS]
theorem evS_12 : evS G cl CS.pass ρ S = .next ρ S := by rw [evS]
theorem evS_13 : evS G cl CS.brk ρ S = .brk ρ S := by rw [evS]
theorem evS_14 : evS G cl CS.cont ρ S = .cont ρ S := by rw [evS]
theorem evS_15 : evS G cl (CS.ite c a b) ρ S = (evE G cl c ρ S).b ρ (sIte ρ (evB G cl a) (evB G cl b)) := by rw [evS]
theorem evS_16 : evS G cl (CS.for_ tg it b) ρ S = (evI G cl it ρ S).b ρ (sFor tg (evB G cl b) ρ) := by rw [evS]
theorem evS_17 : evS G cl (CS.while_ c b) ρ S = whC (tstC false (evE G cl c)) (evB G cl b) ρ S := by rw [evS]
theorem evS_18 : evS G cl (CS.raise k es) ρ S = (evEs G cl es ρ S).b ρ (sRaise G k ρ) := by rw [evS]
theorem evS_20 : evS G cl (CS.retO i) ρ S = retOw i S ρ[i]? := by rw [evS]
theorem evS_21 : evS G cl (CS.appO i e) ρ S = ownC ((evE G cl e ρ S).b ρ (sAppO i ρ)) ρ[i]? := by rw [evS]
theorem evS_22 : evS G cl (CS.setiO i k e) ρ S = ownC ((evE G cl e ρ S).b ρ (sItemO i ρ (evE G cl k ρ))) ρ[i]? := by rw [evS]
theorem hasX_nil : hasX [] = false := rfl
theorem hasX_emp (r : Ev) : hasX (.emp :: r) = hasX r := rfl
theorem hasX_val (r : Ev) : hasX (.val d :: r) = hasX r := rfl
theorem hasX_own (r : Ev) : hasX (.own xs :: r) = hasX r := rfl
theorem nxC_of (r : O) (h : hasX ρ = false) : nxC ρ r = r := by unfold nxC; rw [h]; rfl
theorem clrE_none : clrE none ρ = ρ := rfl
theorem clrE_some : clrE (some k) ρ = ρ.set k .emp := rfl
theorem clr_next (q : Option Nat) : clr q (.next ρ S) = nxC (clrE q ρ) (.next (clrE q ρ) S) := rfl
theorem clr_brk (q : Option Nat) : clr q (.brk ρ S) = nxC (clrE q ρ) (.brk (clrE q ρ) S) := rfl
theorem clr_cont (q : Option Nat) : clr q (.cont ρ S) = nxC (clrE q ρ) (.cont (clrE q ρ) S) := rfl
theorem clr_ret (q : Option Nat) (h : isX d = false) : clr q (.ret d S) = .ret d S := by show (if isX d = true then O.bad else O.ret d S) = _; rw [h]; rfl
theorem hdlE_none : hdlE none k xs ρ = ρ := rfl
theorem hdlE_some : hdlE (some n) k xs ρ = ρ.set n (.exc k xs) := rfl
theorem evS_19 : evS G cl (CS.try_ b k nm h) ρ S = sTry G k nm (evB G cl h) (evB G cl b ρ S) := by rw [evS]
theorem evB_0 : evB G cl CB.nil ρ S = .next ρ S := by rw [evB]
theorem evB_1 : evB G cl (CB.cons s r) ρ S = (evS G cl s ρ S).bind (evB G cl r) := by rw [evB]
theorem evB_2 : evB G cl (CB.frz i r) ρ S = frzD i ρ S (evB G cl r) ρ[i]? := by rw [evB]
theorem kBin_eq : kBin G cl op eb x S = (eb S).bind (binD G cl op x) := rfl
theorem kCmp_eq : kCmp G cl op eb x S = (eb S).bind (cmpD G cl op x) := rfl
theorem kChain_eq : kChain G cl o1 o2 eb ec x S = (eb S).bind (kChainB G cl o1 o2 ec x) := rfl
theorem kChainB_eq : kChainB G cl o1 o2 ec x y S = (cmpD G cl o1 x y S).bind (kChainC G cl o2 ec y) := rfl
theorem kCons_eq : kCons er x S = (er S).bind (kCons2 x) := rfl
theorem kCons2_eq : kCons2 x xs S = .ok (x :: xs) S := rfl
theorem kIx_eq : kIx ei x S = (ei S).bind (ixD x) := rfl
theorem kMeth_eq : kMeth G cl m er x S = kMeth1 cl er x S (methOf G x S m) := rfl
theorem kMeth1_eq : kMeth1 cl er x S (some f) = (er S).bind (kMeth2 cl f x) := rfl
theorem kMeth2_of (h : fzs (x :: xs) = some ys) : kMeth2 cl f x xs S = cl f ys S := by unfold kMeth2; rw [h]
theorem sPar_eq : sPar i j ρ eb x S = (eb S).b ρ (sPar2 i j ρ x) := rfl
theorem sAttr_eq : sAttr G f ρ eo d S = (eo S).b ρ (sAttr2 G f ρ d) := rfl
theorem sItem_eq : sItem ρ eo ek d S = (eo S).b ρ (sItem2 ρ ek d) := rfl
theorem sItem2_eq : sItem2 ρ ek d x S = (ek S).b ρ (sItem3 ρ d x) := rfl
theorem sApp_loc : sApp ρ ee (.loc k) S = sAppC ρ ee (.loc k) S S[k]? := rfl
theorem sAppC_lst : sAppC ρ ee x S (some (.lst xs)) = (ee S).b ρ (sApp2 ρ x) := rfl
theorem sExpr_eq : sExpr ρ d S = .next ρ S := rfl
theorem sRet_of (h : isOw d = false) : sRet d S = .ret d S := by unfold sRet; simp [h]
theorem forStep_eq : forStep tg b x ρ S = forB b S (bindT ρ tg x) := rfl
theorem lcStep_eq : lcStep ρ tg cd el x S = lcIn cd el S (bindT ρ tg x) := rfl
theorem kRng2_eq : kRng2 eb x S = (eb S).bind (rngB x) := rfl
theorem kZip_eq : kZip eb x S = (eb S).bind (zipB x) := rfl
theorem forB_some : forB b S (some ρ) = b ρ S := rfl
theorem lcIn_some : lcIn cd el S (some ρ) = (cd ρ S).bind (lcTest (el ρ)) := rfl
theorem lcTest_t : lcTest el true S = (el S).bind lcEnd := rfl
theorem lcTest_f : lcTest el false S = .ok none S := rfl
theorem wipeE_nil : wipeE ρ [] = ρ := rfl
theorem wipeE_cons : wipeE ρ (v :: vs) = (wipeE ρ vs).set v .emp := rfl
theorem setAll_nil : setAll ρ [] [] = some ρ := rfl
theorem setAll_cons : setAll ρ (i :: is) (d :: ds) = setAll (ρ.set i (.val d)) is ds := rfl
theorem bindT_tp : bindT ρ (.tp is) (.tup ds) = setAll ρ is ds := rfl
theorem bindT_tpn : bindT ρ (.tp is) (.new ds) = setAll ρ is ds := rfl
theorem bindT_tpl : bindT ρ (.tp is) (.lst ds) = setAll ρ is ds := rfl
theorem sSetT_new : sSetT is ρ (.new xs) S = nextO S (setAll ρ is xs) := rfl
theorem sSetT_lst : sSetT is ρ (.lst xs) S = nextO S (setAll ρ is xs) := rfl
theorem sSetT_tup : sSetT is ρ (.tup xs) S = nextO S (setAll ρ is xs) := rfl
theorem nextO_some : nextO S (some ρ) = .next ρ S := rfl
theorem optI_t : optI true eo S = .ok none S := rfl
theorem optI_f : optI false eo S = (eo S).bind kInt := rfl
theorem tstC_t : tstC true et ρ S = .ok true S := rfl
theorem tstC_f : tstC false et ρ S = (et ρ S).bind kTest := rfl
theorem kInt_int : kInt (.int i) S = .ok (some i) S := rfl
theorem kTest_bl : kTest (.bl b) S = .ok b S := rfl
theorem kTest_of (h : truth S x = some b) : kTest x S = .ok b S := by unfold kTest; rw [h]
theorem kChainC_t : kChainC G cl o2 ec y (.bl true) S = (ec S).bind (cmpD G cl o2 y) := rfl
theorem kChainC_f : kChainC G cl o2 ec y (.bl false) S = .ok (.bl false) S := rfl
end Tk
/-! Core 33: more equations by which a def is run; loops. -/
namespace Tk
open PySem
section
variable {G : Prog} {cl : Cl} {ρ : Ev} {S : Sto} {α β : Type} {b c : Bool} {i j : Int} {s t : Str} {xs ys ds fs : List D} {x y d : D} {k f n m l : Nat}
theorem wh_mono {c : Ev → Sto → R Bool} {b : Ev → Sto → O} : ∀ {n : Nat} {ρ : Ev} {S : Sto} {m : Nat}, n ≤ m → wh c b n ρ S ≠ .bad → wh c b m ρ S = wh c b n ρ S
  | 0, ρ, S, m, _, h => absurd rfl h
  | n + 1, ρ, S, m, hm, h => by
    obtain ⟨m, rfl⟩ : ∃ k, m = k + 1 := ⟨m - 1, by omega⟩
    unfold wh at h ⊢
    cases q : c ρ S with
    | bad => rfl
    | err k fs S1 => rfl
    | ok t S1 =>
      cases t with
      | false => rfl
      | true =>
        rw [q] at h
        dsimp only at h ⊢
        cases q2 : b ρ S1 with
        | next ρ2 S2 =>
          rw [q2] at h
          exact wh_mono (by omega) h
        | cont ρ2 S2 =>
          rw [q2] at h
          exact wh_mono (by omega) h
        | _ => rfl
theorem whC_of {c : Ev → Sto → R Bool} {b : Ev → Sto → O} {r : O} (h : wh c b n ρ S = r) (hr : r ≠ .bad) : whC c b ρ S = r := by
  have hx : ∃ n, wh c b n ρ S ≠ .bad := ⟨n, by rw [h]; exact hr⟩
  unfold whC
  rw [dif_pos hx]
  have h2 := Classical.choose_spec hx
  rcases Nat.le_total n (Classical.choose hx) with z | z
  · rw [wh_mono z (by rw [h]; exact hr), h]
  · rw [← wh_mono z h2, h]
def whK (c : Ev → Sto → R Bool) (b : Ev → Sto → O) (n : Nat) : O → O
  | .next ρ S => wh c b n ρ S
  | .cont ρ S => wh c b n ρ S
  | .brk ρ S => .next ρ S
  | r => r
def whT (c : Ev → Sto → R Bool) (b : Ev → Sto → O) (n : Nat) (ρ : Ev) : R Bool → O
  | .ok true S => whK c b n (b ρ S)
  | .ok false S => .next ρ S
  | .err k fs S => .err k fs ρ S
  | .bad => .bad
theorem wh_succ {c : Ev → Sto → R Bool} {b : Ev → Sto → O} : wh c b (n + 1) ρ S = whT c b n ρ (c ρ S) := by
  rw [wh]
  cases c ρ S with
  | ok t S1 =>
    cases t with
    | false => rfl
    | true =>
      show (match b ρ S1 with | .next ρ2 S2 => _ | .cont ρ2 S2 => _ | .brk ρ2 S2 => _ | r => r) = whK c b n (b ρ S1)
      cases b ρ S1 <;> rfl
  | _ => rfl
theorem whT_t {c : Ev → Sto → R Bool} {b : Ev → Sto → O} : whT c b n ρ (.ok true S) = whK c b n (b ρ S) := rfl
theorem whT_f {c : Ev → Sto → R Bool} {b : Ev → Sto → O} : whT c b n ρ (.ok false S) = .next ρ S := rfl
theorem whK_next {c : Ev → Sto → R Bool} {b : Ev → Sto → O} : whK c b n (.next ρ S) = wh c b n ρ S := rfl
theorem whK_cont {c : Ev → Sto → R Bool} {b : Ev → Sto → O} : whK c b n (.cont ρ S) = wh c b n ρ S := rfl
theorem whK_brk {c : Ev → Sto → R Bool} {b : Ev → Sto → O} : whK c b n (.brk ρ S) = .next ρ S := rfl
theorem whK_ret {c : Ev → Sto → R Bool} {b : Ev → Sto → O} : whK c b n (.ret d S) = .ret d S := rfl
theorem cmp_isn_non : cmpD G cl .isn .non y S = .ok (.bl true) S := rfl
theorem cmp_isnb : cmpD G cl (.isnb b) (.bl c) y S = .ok (.bl (!(c == b))) S := rfl
theorem cmp_isb : cmpD G cl (.isb b) (.bl c) y S = .ok (.bl (c == b)) S := rfl
/-- own == asked on the left -/
theorem cmp_eq_own (h : G.eqOf x = some f) (h2 : cmpOk G S y = true) (h3 : fzs [x, y] = some ds) : cmpD G cl .eq x y S = (cl f ds S).bind kBl := by
  show (match G.eqOf x with | some f => if cmpOk G S y then kOwn cl f S (fzs [x, y]) else .bad | none => _) = _
  rw [h]; dsimp only; rw [if_pos h2, h3]; rfl
theorem cmp_eq_ownR (h1 : G.eqOf x = none) (h : G.eqOf y = some f) (h2 : leftOk x = true) (h3 : fzs [y, x] = some ds) : cmpD G cl .eq x y S = (cl f ds S).bind kBl := by
  show (match G.eqOf x with | some f => if cmpOk G S y then kOwn cl f S (fzs [x, y]) else .bad | none => match G.eqOf y with | some f => if leftOk x then kOwn cl f S (fzs [y, x]) else .bad | none => _) = _
  rw [h1, h]; dsimp only; rw [if_pos h2, h3]; rfl
theorem kBl_bl : kBl (.bl b) S = .ok (.bl b) S := rfl
theorem cmp_eq_dat (h1 : G.eqOf x = none) (h2 : G.eqOf y = none) (h3 : dat (rd S x) 60 = true) (h4 : dat (rd S y) 60 = true) : cmpD G cl .eq x y S = .ok (.bl (eqB (rd S x) (rd S y))) S := by
  simp only [cmpD, eqD, h1, h2]
  split
  · simp [rd, fz, dat] at h3
  · simp [h3, h4]
theorem cmp_eq_dic : cmpD G cl .eq .dic0 .dic0 S = .ok (.bl true) S := rfl
theorem sAttr2_of (h : still d = true) : sAttr2 G f ρ d x S = nextS ρ (setaD G S x f (fz d)) := by unfold sAttr2; simp [h]
theorem nextS_some {T : Sto} : nextS ρ (some T) = .next ρ T := rfl
theorem setaD_new (h : S[l]? = some (.ins k fs)) (hk : G.cls? k = true) (hp : fpos G k f = some n) (hn : n = fs.length) : setaD G S (.loc l) f d = some (S.set l (.ins k (fs ++ [d]))) := by
  unfold setaD; dsimp only; rw [h]; dsimp only; rw [if_pos hk, hp]; dsimp only; rw [if_neg (by omega), if_pos hn]
theorem sTry_next (q : Option Nat) (hh : Ev → Sto → O) : sTry G k q hh (.next ρ S) = .next ρ S := rfl
theorem sTry_ret (q : Option Nat) (hh : Ev → Sto → O) : sTry G k q hh (.ret d S) = .ret d S := rfl
theorem u_sTry_err (q : Option Nat) (hh : Ev → Sto → O) (h1 : (G.exc? m && G.exc? k) = true) (h2 : G.subB m k = true) : sTry G k q hh (.err m fs ρ S) = clr q (hh (hdlE q m fs ρ) S) := by
  show (if (G.exc? m && G.exc? k) = false then O.bad else if G.subB m k then clr q (hh (hdlE q m fs ρ) S) else .err m fs ρ S) = _
  rw [h1, if_neg (by decide), if_pos h2]
theorem hasX_exc (r : Ev) : hasX (.exc k xs :: r) = true := rfl
theorem isX_f1 : isX (.bl b) = false := rfl
theorem slD_of (l h : Option Int) (hx : ∀ zs, x ≠ .tup zs) (hs : seqOf S x = some xs) : slD x l h S = .ok (.new (cutD xs l h)) S := by
  cases x <;> first | (exact absurd rfl (hx _)) | (simp only [slD, hs])
theorem kNeg_own (h : (G.clss[k]?).bind (·.neg) = some f) : kNeg G cl (.obj k fs) S = cl f [.obj k fs] S := by
  show (match (G.clss[k]?).bind (·.neg) with | some f => cl f [.obj k fs] S | none => .bad) = _
  rw [h]
theorem isi_non_int : isiB G (.non) (.ty "int") = some false := by simp [isiB]
theorem isi_non_bool : isiB G (.non) (.ty "bool") = some false := by simp [isiB]
theorem isi_non_str : isiB G (.non) (.ty "str") = some false := by simp [isiB]
theorem isi_non_tuple : isiB G (.non) (.ty "tuple") = some false := by simp [isiB]
theorem isi_non_list : isiB G (.non) (.ty "list") = some false := by simp [isiB]
theorem isi_non_dict : isiB G (.non) (.ty "dict") = some false := by simp [isiB]
theorem isi_non_own (n : Nat) : isiB G (.non) (.own n) = some false := rfl
theorem cmpOk_non : cmpOk G S (.non) = true := rfl
theorem eqOf_non : G.eqOf (.non) = none := rfl
theorem isi_bl_int : isiB G (.bl b) (.ty "int") = some true := by simp [isiB]
theorem isi_bl_bool : isiB G (.bl b) (.ty "bool") = some true := by simp [isiB]
theorem isi_bl_str : isiB G (.bl b) (.ty "str") = some false := by simp [isiB]
theorem isi_bl_tuple : isiB G (.bl b) (.ty "tuple") = some false := by simp [isiB]
theorem isi_bl_list : isiB G (.bl b) (.ty "list") = some false := by simp [isiB]
theorem isi_bl_dict : isiB G (.bl b) (.ty "dict") = some false := by simp [isiB]
theorem isi_bl_own (n : Nat) : isiB G (.bl b) (.own n) = some false := rfl
theorem cmpOk_bl : cmpOk G S (.bl b) = true := rfl
theorem eqOf_bl : G.eqOf (.bl b) = none := rfl
theorem isi_int_int : isiB G (.int i) (.ty "int") = some true := by simp [isiB]
theorem isi_int_bool : isiB G (.int i) (.ty "bool") = some false := by simp [isiB]
theorem isi_int_str : isiB G (.int i) (.ty "str") = some false := by simp [isiB]
theorem isi_int_tuple : isiB G (.int i) (.ty "tuple") = some false := by simp [isiB]
theorem isi_int_list : isiB G (.int i) (.ty "list") = some false := by simp [isiB]
theorem isi_int_dict : isiB G (.int i) (.ty "dict") = some false := by simp [isiB]
theorem isi_int_own (n : Nat) : isiB G (.int i) (.own n) = some false := rfl
theorem cmpOk_int : cmpOk G S (.int i) = true := rfl
theorem eqOf_int : G.eqOf (.int i) = none := rfl
theorem isi_str_int : isiB G (.str s) (.ty "int") = some false := by simp [isiB]
theorem isi_str_bool : isiB G (.str s) (.ty "bool") = some false := by simp [isiB]
theorem isi_str_str : isiB G (.str s) (.ty "str") = some true := by simp [isiB]
theorem isi_str_tuple : isiB G (.str s) (.ty "tuple") = some false := by simp [isiB]
theorem isi_str_list : isiB G (.str s) (.ty "list") = some false := by simp [isiB]
theorem isi_str_dict : isiB G (.str s) (.ty "dict") = some false := by simp [isiB]
theorem isi_str_own (n : Nat) : isiB G (.str s) (.own n) = some false := rfl
theorem cmpOk_str : cmpOk G S (.str s) = true := rfl
theorem eqOf_str : G.eqOf (.str s) = none := rfl
theorem isi_tup_int : isiB G (.tup xs) (.ty "int") = some false := by simp [isiB]
theorem isi_tup_bool : isiB G (.tup xs) (.ty "bool") = some false := by simp [isiB]
theorem isi_tup_str : isiB G (.tup xs) (.ty "str") = some false := by simp [isiB]
theorem isi_tup_tuple : isiB G (.tup xs) (.ty "tuple") = some true := by simp [isiB]
theorem isi_tup_list : isiB G (.tup xs) (.ty "list") = some false := by simp [isiB]
theorem isi_tup_dict : isiB G (.tup xs) (.ty "dict") = some false := by simp [isiB]
theorem isi_tup_own (n : Nat) : isiB G (.tup xs) (.own n) = some false := rfl
theorem cmpOk_tup : cmpOk G S (.tup xs) = true := rfl
theorem eqOf_tup : G.eqOf (.tup xs) = none := rfl
theorem isi_lst_int : isiB G (.lst xs) (.ty "int") = some false := by simp [isiB]
theorem isi_lst_bool : isiB G (.lst xs) (.ty "bool") = some false := by simp [isiB]
theorem isi_lst_str : isiB G (.lst xs) (.ty "str") = some false := by simp [isiB]
theorem isi_lst_tuple : isiB G (.lst xs) (.ty "tuple") = some false := by simp [isiB]
theorem isi_lst_list : isiB G (.lst xs) (.ty "list") = some true := by simp [isiB]
theorem isi_lst_dict : isiB G (.lst xs) (.ty "dict") = some false := by simp [isiB]
theorem isi_lst_own (n : Nat) : isiB G (.lst xs) (.own n) = some false := rfl
theorem cmpOk_lst : cmpOk G S (.lst xs) = true := rfl
theorem eqOf_lst : G.eqOf (.lst xs) = none := rfl
theorem isi_new_int : isiB G (.new xs) (.ty "int") = some false := by simp [isiB]
theorem isi_new_bool : isiB G (.new xs) (.ty "bool") = some false := by simp [isiB]
theorem isi_new_str : isiB G (.new xs) (.ty "str") = some false := by simp [isiB]
theorem isi_new_tuple : isiB G (.new xs) (.ty "tuple") = some false := by simp [isiB]
theorem isi_new_list : isiB G (.new xs) (.ty "list") = some true := by simp [isiB]
theorem isi_new_dict : isiB G (.new xs) (.ty "dict") = some false := by simp [isiB]
theorem isi_new_own (n : Nat) : isiB G (.new xs) (.own n) = some false := rfl
theorem cmpOk_new : cmpOk G S (.new xs) = true := rfl
theorem eqOf_new : G.eqOf (.new xs) = none := rfl
theorem isi_loc_int : isiB G (.loc k) (.ty "int") = some false := by simp [isiB]
theorem isi_loc_bool : isiB G (.loc k) (.ty "bool") = some false := by simp [isiB]
theorem isi_loc_str : isiB G (.loc k) (.ty "str") = some false := by simp [isiB]
theorem isi_loc_tuple : isiB G (.loc k) (.ty "tuple") = some false := by simp [isiB]
theorem isi_loc_list : isiB G (.loc k) (.ty "list") = some true := by simp [isiB]
theorem isi_loc_dict : isiB G (.loc k) (.ty "dict") = some false := by simp [isiB]
theorem isi_loc_own (n : Nat) : isiB G (.loc k) (.own n) = some false := rfl
theorem isi_dic_int : isiB G (.dic0) (.ty "int") = some false := by simp [isiB]
theorem isi_dic_bool : isiB G (.dic0) (.ty "bool") = some false := by simp [isiB]
theorem isi_dic_str : isiB G (.dic0) (.ty "str") = some false := by simp [isiB]
theorem isi_dic_tuple : isiB G (.dic0) (.ty "tuple") = some false := by simp [isiB]
theorem isi_dic_list : isiB G (.dic0) (.ty "list") = some false := by simp [isiB]
theorem isi_dic_dict : isiB G (.dic0) (.ty "dict") = some true := by simp [isiB]
theorem isi_dic_own (n : Nat) : isiB G (.dic0) (.own n) = some false := rfl
theorem cmpOk_dic : cmpOk G S (.dic0) = true := rfl
theorem eqOf_dic : G.eqOf (.dic0) = none := rfl
theorem leftOk_int : leftOk (.int i) = true := rfl
theorem leftOk_bl : leftOk (.bl b) = true := rfl
theorem kIsi_eq (q : Ck) (h0 : cmpOk G S x = true) : kIsi G q x S = isiR S (isiB G x q) := by
  cases x with
  | exn c fs => cases h0
  | _ => show kIsi0 G q _ S = _; unfold kIsi0; rw [if_pos h0]
theorem kIsi_eqX {k : Nat} {fs : List D} (q : Ck) (h0 : G.exc? k = true) : kIsi G q (.exn k fs) S = isiR S (isiB G (.exn k fs) q) := by
  show (if G.exc? k then isiR S (isiB G (.exn k fs) q) else .bad) = _
  rw [if_pos h0]
theorem isiR_some : isiR S (some b) = .ok (.bl b) S := rfl
theorem seqOf_scr : seqOf S (.scr xs) = some xs := rfl
end
end Tk
/-! Core 34: equations with nothing to be guessed. -/
namespace Tk
open PySem
def itR (S : Sto) : Option It → R It
  | some t => .ok t S
  | none => .bad
def ixS : Option (List D) → Int → Option D
  | some xs, j => L2.atI xs j
  | none, _ => none
def ixR (S : Sto) : Option D → R D
  | some d => .ok d S
  | none => .bad
def seqC : Option Cell → Option (List D)
  | some (.lst xs) => some xs
  | _ => none
def lenR (S : Sto) : Option (List D) → R D
  | some xs => .ok (.int xs.length) S
  | none => .bad
def listR (S : Sto) : Option (List D) → R D
  | some xs => .ok (.new xs) S
  | none => .bad
def storC (ρ : Ev) (S : Sto) (g : List D → Option (List D)) (l : Nat) : Option Cell → O
  | some (.lst xs) => stL ρ S l (g xs)
  | _ => .bad
def fldR (S : Sto) (xs : List D) : Option Nat → R D
  | some p => ixR S xs[p]?
  | none => .bad
def setaF (S : Sto) (l k : Nat) (fs : List D) (d : D) : Option Nat → Option Sto
  | some p => if p < fs.length then some (S.set l (.ins k (fs.set p d))) else if p = fs.length then some (S.set l (.ins k (fs ++ [d]))) else none
  | none => none
def setaC (G : Prog) (S : Sto) (f l : Nat) (d : D) : Option Cell → Option Sto
  | some (.ins k fs) => if G.cls? k then setaF S l k fs d (fpos G k f) else none
  | _ => none
def notR (S : Sto) : Option Bool → R D
  | some b => .ok (.bl (!b)) S
  | none => .bad
def cutR (S : Sto) (l h : Option Int) : Option (List D) → R D
  | some xs => .ok (.new (cutD xs l h)) S
  | none => .bad
def eqK (cl : Cl) (S : Sto) (ds : List D) : Option Nat → R D
  | some f => (cl f ds S).bind kBl
  | none => .bad
def negK (cl : Cl) (S : Sto) (ds : List D) : Option Nat → R D
  | some f => cl f ds S
  | none => .bad
section
variable {G : Prog} {cl : Cl} {ρ : Ev} {S : Sto} {α β : Type} {b c : Bool} {i j : Int} {s t : Str} {xs ys ds fs : List D} {x y d : D} {k f n m l : Nat}
theorem kSeq_tup : kSeq (.tup xs) S = .ok (.fix xs) S := rfl
theorem kSeq_lst : kSeq (.lst xs) S = .ok (.fix xs) S := rfl
theorem kSeq_new : kSeq (.new xs) S = .ok (.fix xs) S := rfl
theorem kSeq_scr : kSeq (.scr xs) S = .ok (.fix xs) S := rfl
theorem kSeq_own : kSeq (.own k xs) S = .ok (.ow xs) S := rfl
theorem ixD_eq : ixD x (.int j) S = ixR S (ixS (seqOf S x) j) := by
  unfold ixD
  cases seqOf S x with
  | none => rfl
  | some xs =>
    show (match L2.atI xs j with | some d => R.ok d S | none => .bad) = ixR S (L2.atI xs j)
    cases L2.atI xs j <;> rfl
theorem ixS_some : ixS (some xs) j = L2.atI xs j := rfl
theorem ixR_some : ixR S (some d) = .ok d S := rfl
theorem seqOf_locq : seqOf S (.loc k) = seqC S[k]? := by
  show (match S[k]? with | some (.lst xs) => some xs | _ => none) = _
  cases S[k]? with
  | none => rfl
  | some c => cases c <;> rfl
theorem seqC_lst : seqC (some (.lst xs)) = some xs := rfl
theorem ln_tup : btD .len [.tup xs] S = .ok (.int xs.length) S := rfl
theorem ln_lst : btD .len [.lst xs] S = .ok (.int xs.length) S := rfl
theorem ln_new : btD .len [.new xs] S = .ok (.int xs.length) S := rfl
theorem ln_own : btD .len [.own k xs] S = .ok (.int xs.length) S := rfl
theorem ln_scr : btD .len [.scr xs] S = .ok (.int xs.length) S := rfl
theorem ln_loc : btD .len [.loc k] S = lenR S (seqOf S (.loc k)) := by
  show (match seqOf S (.loc k) with | some xs => R.ok (D.int xs.length) S | none => .bad) = _
  cases seqOf S (.loc k) <;> rfl
theorem lenR_some : lenR S (some xs) = .ok (.int xs.length) S := rfl
theorem bt_listq : btD .list [x] S = listR S (seqOf S x) := by
  show (match seqOf S x with | some xs => R.ok (D.new xs) S | none => .bad) = _
  cases seqOf S x <;> rfl
theorem listR_some : listR S (some xs) = .ok (.new xs) S := rfl
theorem storD_locq (g : List D → Option (List D)) : storD ρ S g (.loc l) = storC ρ S g l S[l]? := by
  show (match S[l]? with | some (.lst xs) => stL ρ S l (g xs) | _ => .bad) = _
  cases S[l]? with
  | none => rfl
  | some c => cases c <;> rfl
theorem storC_lst (g : List D → Option (List D)) : storC ρ S g l (some (.lst xs)) = stL ρ S l (g xs) := rfl
theorem putD_eq : putD i d xs = (L2.ixN xs.length i).map fun j => xs.set j d := rfl
theorem attr_objq (h0 : G.cls? k = true) : kAttr G f (.obj k xs) S = fldR S xs (fpos G k f) := by
  show (if G.cls? k then fldD G k xs f S else .bad) = _
  rw [if_pos h0]; unfold fldD
  cases fpos G k f with
  | none => rfl
  | some p =>
    show (match xs[p]? with | some d => R.ok d S | none => .bad) = ixR S xs[p]?
    cases xs[p]? <;> rfl
theorem attr_exnq (h0 : G.exc? k = true) : kAttr G f (.exn k xs) S = fldR S xs (fpos G k f) := by
  show (if G.exc? k then fldD G k xs f S else .bad) = _
  rw [if_pos h0]; unfold fldD
  cases fpos G k f with
  | none => rfl
  | some p =>
    show (match xs[p]? with | some d => R.ok d S | none => .bad) = ixR S xs[p]?
    cases xs[p]? <;> rfl
def attrC (G : Prog) (f : Nat) (S : Sto) : Option Cell → R D
  | some (.ins k fs) => if G.cls? k then fldD G k fs f S else .bad
  | _ => .bad
theorem attr_locq : kAttr G f (.loc l) S = attrC G f S S[l]? := by
  show (match S[l]? with | some (.ins k fs) => if G.cls? k then fldD G k fs f S else .bad | _ => .bad) = _
  cases S[l]? with
  | none => rfl
  | some c => cases c <;> rfl
theorem attrC_ins (h0 : G.cls? k = true) : attrC G f S (some (.ins k xs)) = fldR S xs (fpos G k f) := attr_objq h0
theorem fldR_some : fldR S xs (some n) = ixR S xs[n]? := rfl
theorem setaD_loc : setaD G S (.loc l) f d = setaC G S f l d S[l]? := by
  show (match S[l]? with | some (.ins k fs) => if G.cls? k then (match fpos G k f with | some p => if p < fs.length then some (S.set l (.ins k (fs.set p d))) else if p = fs.length then some (S.set l (.ins k (fs ++ [d]))) else none | none => none) else none | _ => none) = _
  cases S[l]? with
  | none => rfl
  | some c =>
    cases c with
    | lst _ => rfl
    | ins k fs =>
      show (if G.cls? k then (match fpos G k f with | some p => if p < fs.length then some (S.set l (.ins k (fs.set p d))) else if p = fs.length then some (S.set l (.ins k (fs ++ [d]))) else none | none => none) else none) = (if G.cls? k then setaF S l k fs d (fpos G k f) else none)
      cases fpos G k f <;> rfl
theorem setaC_ins (h0 : G.cls? k = true) : setaC G S f l d (some (.ins k fs)) = setaF S l k fs d (fpos G k f) := if_pos h0
theorem setaF_some : setaF S l k fs d (some n) = if n < fs.length then some (S.set l (.ins k (fs.set n d))) else if n = fs.length then some (S.set l (.ins k (fs ++ [d]))) else none := rfl
theorem kComp_fix (g : D → Sto → R (Option D)) : kComp g (.fix xs) S = noErr (lcF g xs [] S) := rfl
theorem kComp_ow (g : D → Sto → R (Option D)) : kComp g (.ow xs) S = noErr (lcF g xs [] S) := rfl
theorem kMeth2_still (h : (x :: xs).all still = true) : kMeth2 cl f x xs S = cl f ((x :: xs).map fz) S := by unfold kMeth2; rw [fzs_of h]
theorem kNot_q : kNot x S = notR S (truth S x) := by unfold kNot; cases truth S x <;> rfl
theorem notR_some : notR S (some b) = .ok (.bl (!b)) S := rfl
theorem sl_scr (l h : Option Int) : slD (.scr xs) l h S = .ok (.new (cutD xs l h)) S := rfl
theorem sl_lst (l h : Option Int) : slD (.lst xs) l h S = .ok (.new (cutD xs l h)) S := rfl
theorem sl_new (l h : Option Int) : slD (.new xs) l h S = .ok (.new (cutD xs l h)) S := rfl
theorem sl_own (l h : Option Int) : slD (.own k xs) l h S = .ok (.new (cutD xs l h)) S := rfl
theorem cmp_own_l (h : (G.eqOf (.obj k fs)).isSome = true) (h2 : cmpOk G S y = true) (h3 : still y = true) : cmpD G cl .eq (.obj k fs) y S = eqK cl S [.obj k fs, fz y] (G.eqOf (.obj k fs)) := by
  obtain ⟨f, hf⟩ := Option.isSome_iff_exists.mp h
  rw [hf]
  exact cmp_eq_own hf h2 (by rw [fzs_of (by rw [List.all_cons, List.all_cons, h3]; rfl)]; rfl)
theorem cmp_own_r (h1 : G.eqOf x = none) (h : (G.eqOf (.obj k fs)).isSome = true) (h2 : leftOk x = true) (h3 : still x = true) : cmpD G cl .eq x (.obj k fs) S = eqK cl S [.obj k fs, fz x] (G.eqOf (.obj k fs)) := by
  obtain ⟨f, hf⟩ := Option.isSome_iff_exists.mp h
  rw [hf]
  exact cmp_eq_ownR h1 hf h2 (by rw [fzs_of (by rw [List.all_cons, List.all_cons, h3]; rfl)]; rfl)
theorem eqK_some : eqK cl S ds (some f) = (cl f ds S).bind kBl := rfl
theorem cmp_eq_str (h1 : s.cps.all (· < 0x110000) = true) (h2 : t.cps.all (· < 0x110000) = true) : cmpD G cl .eq (.str s) (.str t) S = .ok (.bl (s == t)) S :=
  cmp_eq_dat rfl rfl h1 h2
theorem kNeg_q : kNeg G cl (.obj k fs) S = negK cl S [.obj k fs] ((G.clss[k]?).bind (·.neg)) := by
  show (match (G.clss[k]?).bind (·.neg) with | some f => cl f [.obj k fs] S | none => .bad) = _
  cases (G.clss[k]?).bind (·.neg) <;> rfl
theorem negK_some : negK cl S ds (some f) = cl f ds S := rfl
theorem cmpOk_obj : cmpOk G S (.obj k fs) = G.cls? k := rfl
theorem isi_obj_ty (n : String) (h0 : G.cls? k = true) (h : n ∈ ["list", "bool", "int", "str", "tuple", "dict"]) : isiB G (.obj k fs) (.ty n) = some false := by
  simp only [isiB]
  rw [if_neg (by rw [h0]; decide), if_pos (by simpa [or_assoc] using h)]
theorem isi_obj_own (h0 : (G.cls? k && G.cls? n) = true) : isiB G (.obj k fs) (.own n) = some (decide (k = n)) := by simp only [isiB]; rw [if_pos h0]
theorem isi_exn_own : isiB G (.exn k fs) (.own n) = some (decide ((k, n) ∈ G.subs)) := rfl
theorem isi_exn_ve : isiB G (.exn k fs) (.ty "ValueError") = some true := by simp [isiB]
theorem lcStep_q : lcStep ρ tg cd el x S = lcIn cd el S (bindT ρ tg x) := rfl
theorem still_scr : still (.scr xs) = true := rfl
theorem fz_scr : fz (.scr xs) = .scr xs := rfl
theorem binD_oo (op : Bi) {gs : List D} {j : Nat} : binD G cl op (.obj k fs) (.obj j gs) S = binL cl k fs (.obj j gs) S (G.opOf op (.obj k fs)) := rfl
theorem binD_oi (op : Bi) : binD G cl op (.obj k fs) (.int i) S = binL cl k fs (.int i) S (G.opOf op (.obj k fs)) := rfl
theorem binD_io (op : Bi) : binD G cl op (.int i) (.obj k fs) S = binRt cl op k fs i S (G.opOf op (.obj k fs)) := rfl
theorem binL_obj {gs : List D} : binL cl k fs (.obj k gs) S (some (f, m)) = cl f [.obj k fs, .obj k gs] S := by simp [binL]
theorem binL_int : binL cl k fs (.int i) S (some (f, m)) = cl f [.obj k fs, .int i] S := rfl
theorem binRt_some (op : Bi) (h : rOk op = true) : binRt cl op k fs i S (some (f, m)) = cl m [.obj k fs, .int i] S := by simp [binRt, h]
theorem rOk_add : rOk .add = true := rfl
theorem rOk_sub : rOk .sub = true := rfl
theorem rOk_mul : rOk .mul = true := rfl
theorem bind_idR (r : R D) : r.bind (fun a S => .ok a S) = r := by cases r <;> rfl
theorem rngD3 : rngD 0 3 = [.int 0, .int 1, .int 2] := rfl
end
end Tk
/-! Core 4: what an evaluation gives, over the hand layer. -/
namespace Tk
open PySem PySem.Spec PyProof.Rows L2

def Ct.plus (c : Ct) (a : Addr) : Ct := { c with x := a :: c.x }
/-- a passing value: one's own list, a new list, or at rest -/
def RepT (g : Wd) (c : Ct) (H : Hp) (d : D) (v : V) : Prop := match d with
  | .own _ xs => ∃ a vs, v = .ref a ∧ H a = some (.lst vs) ∧ a ∉ c.m ∧ Reps g c H xs vs
  | .new xs => ∃ a vs, v = .ref a ∧ Fx c H a (.lst vs) ∧ Reps g c H xs vs
  | .exn k fs => ∃ a, v = .ref a ∧ ExRep g c H k fs a
  | d => Rep g c H d v
def RepTs (g : Wd) (c : Ct) (H : Hp) : List D → List V → Prop
  | [], vs => vs = []
  | d :: ds, vs => ∃ v r, vs = v :: r ∧ RepT g c H d v ∧ RepTs g c H ds r
section
variable {g : Wd} {c c' c1 c2 : Ct} {H H' H1 H2 : Hp} {S S' : Sto} {a : Addr} {d : D} {v : V} {o : List (Nat × Addr)} {σ : L2.St} {ρ : Ev}
theorem E.free (e : E c H c' H') (h : H' a = none) : H a = none := by
  cases q : H a with
  | none => rfl
  | some o => exact absurd h (e.dom a (by rw [q]; exact fun z => nomatch z))
/-- fewer exclusions -/
theorem cy_weak : Cy (c.plus a) H c H where
  fx := fun b o ⟨h1, h2, h3⟩ => ⟨h1, h2, fun z => h3 (List.mem_cons_of_mem _ z)⟩
  loc := fun _ _ h => h
/-- a new address left out, whatever comes to lie there -/
theorem cy_new {ob : HO} (h : H a = none) : Cy c H (c.plus a) (upd H a ob) where
  fx := fun b o ⟨h1, h2, h3⟩ => by
    have n : b ≠ a := ne_of_none h1 h
    refine ⟨by rw [upd_ne n]; exact h1, h2, fun z => ?_⟩
    rcases List.mem_cons.mp z with z | z
    · exact n z
    · exact h3 z
  loc := fun _ _ h => h
theorem cy_upd {ob : HO} (h : H a = none) : Cy c H c (upd H a ob) where
  fx := fun b o ⟨h1, h2, h3⟩ => ⟨by rw [upd_ne (ne_of_none h1 h)]; exact h1, h2, h3⟩
  loc := fun _ _ h => h
theorem E.upd {ob : HO} (hx : ∀ b ∈ c.m, H b ≠ none) (h : H a = none) : E c H c (upd H a ob) where
  pre := List.prefix_refl _
  x := rfl
  su := rfl
  keep := fun b o h1 h2 => ⟨by rw [upd_ne (ne_of_none h1 h)]; exact h1, h2⟩
  dom := fun b hb => by
    by_cases e : b = a
    · rw [e, upd_same]; exact fun z => nomatch z
    · rw [upd_ne e]; exact hb
/-- the exclusions may grow by what was not there -/
theorem E.plus (e : E c H c' H') : E (c.plus a) H (c'.plus a) H' := ⟨e.pre, by show a :: c'.x = a :: c.x; rw [e.x], e.su, e.keep, e.dom⟩
theorem CellOk.cy {ce : Cell} (e : Cy c H c' H') (h : CellOk g c H a ce) (k : ∀ ob, H a = some ob → H' a = some ob) : CellOk g c' H' a ce := by
  cases ce with
  | lst xs =>
    obtain ⟨vs, h1, h2⟩ := h
    exact ⟨vs, k _ h1, Reps.cy e _ _ h2⟩
  | ins q fs =>
    obtain ⟨dx, vs, h1, h2, h3⟩ := h
    exact ⟨dx, vs, k _ h1, h2, Reps.cy e _ _ h3⟩
theorem CellOk.some {ce : Cell} (h : CellOk g c H a ce) : H a ≠ none := by
  cases ce with
  | lst xs => obtain ⟨vs, h1, h2⟩ := h; rw [h1]; exact fun z => nomatch z
  | ins q fs => obtain ⟨dx, vs, h1, h2, h3⟩ := h; rw [h1]; exact fun z => nomatch z
theorem RelS.at {k : Nat} (r : RelS g c H S) (h : c.m[k]? = some a) : ∃ ce, S[k]? = some ce ∧ CellOk g c H a ce := by
  have h1 := (List.getElem?_eq_some_iff.mp h).1
  rw [r.len] at h1
  exact ⟨S[k], List.getElem?_eq_getElem h1, r.ok k _ a (List.getElem?_eq_getElem h1) h⟩
theorem RelS.there (r : RelS g c H S) : ∀ b ∈ c.m, H b ≠ none := fun b hb => by
  obtain ⟨k, hk⟩ := List.mem_iff_getElem?.mp hb
  obtain ⟨ce, _, h⟩ := r.at hk
  exact h.some
theorem RelS.weak (r : RelS g (c.plus a) H S) : RelS g c H S where
  nd := r.nd
  len := r.len
  x := fun b hb => r.x b (List.mem_cons_of_mem _ hb)
  ok := fun k ce b h1 h2 => (r.ok k ce b h1 h2).cy cy_weak fun _ z => z
theorem RelS.new {ob : HO} (r : RelS g c H S) (h : H a = none) : RelS g (c.plus a) (upd H a ob) S where
  nd := r.nd
  len := r.len
  x := fun b hb => by
    rcases List.mem_cons.mp hb with z | z
    · subst z
      exact ⟨fun z => r.there _ z h, by rw [upd_same]; exact fun z => nomatch z⟩
    · obtain ⟨h1, h2⟩ := r.x b z
      refine ⟨h1, ?_⟩
      by_cases e : b = a
      · rw [e, upd_same]; exact fun z => nomatch z
      · rw [upd_ne e]; exact h2
  ok := fun k ce b h1 h2 => by
    have q := r.ok k ce b h1 h2
    refine q.cy (cy_new h) fun o z => ?_
    rw [upd_ne (ne_of_none z h)]; exact z
theorem RelS.upd {ob : HO} (r : RelS g c H S) (h : H a = none) : RelS g c (upd H a ob) S := (r.new h).weak
theorem RepT.cy (e : Cy c H c' H') (hs : c'.su = c.su) (k : ∀ b o, H b = some o → b ∉ c.m → H' b = some o ∧ b ∉ c'.m) (h : RepT g c H d v) : RepT g c' H' d v := by
  cases d with
  | own i xs =>
    obtain ⟨a, vs, h1, h2, h3, h4⟩ := h
    obtain ⟨h5, h6⟩ := k _ _ h2 h3
    exact ⟨a, vs, h1, h5, h6, Reps.cy e _ _ h4⟩
  | new xs =>
    obtain ⟨a, vs, h1, h2, h3⟩ := h
    exact ⟨a, vs, h1, e.fx _ _ h2, Reps.cy e _ _ h3⟩
  | exn k fs =>
    obtain ⟨a, h1, h2⟩ := h
    exact ⟨a, h1, h2.cy e hs⟩
  | _ => exact Rep.cy e _ _ h
theorem RepT.ext (e : E c H c' H') (h : RepT g c H d v) : RepT g c' H' d v := h.cy e.cy e.su e.keep
theorem RepTs.ext (e : E c H c' H') : ∀ {ds : List D} {vs : List V}, RepTs g c H ds vs → RepTs g c' H' ds vs
  | [], _, h => h
  | d :: ds, _, ⟨v, r, h1, h2, h3⟩ => ⟨v, r, h1, h2.ext e, RepTs.ext e h3⟩
theorem RepTs.length : ∀ {ds : List D} {vs : List V}, RepTs g c H ds vs → vs.length = ds.length
  | [], _, h => by rw [show _ = [] from h]; rfl
  | d :: ds, _, ⟨v, r, h1, h2, h3⟩ => by rw [h1, List.length_cons, List.length_cons, RepTs.length h3]
/-- at rest -/
theorem RepT.rest (h : RepT g c H d v) (hs : still d = true) : Rep g c H (fz d) v := by
  cases d with
  | own i xs => cases hs
  | exn k fs => cases hs
  | new xs =>
    obtain ⟨a, vs, h1, h2, h3⟩ := h
    show Rep g c H (.lst xs) v
    rw [Rep]
    exact ⟨a, vs, h1, h2, h3⟩
  | _ => exact h
theorem RepTs.rest : ∀ {ds xs : List D} {vs : List V}, RepTs g c H ds vs → fzs ds = some xs → Reps g c H xs vs := by
  intro ds
  induction ds with
  | nil =>
    intro xs vs h e
    have e1 : xs = [] := by
      have : fzs [] = some [] := rfl
      rw [this] at e; exact (Option.some.inj e).symm
    rw [show vs = [] from h, e1]
    exact Reps.nil
  | cons d ds ih =>
    intro xs vs h e
    obtain ⟨v, r, h1, h2, h3⟩ := h
    unfold fzs at e
    split at e
    · rename_i hall
      simp only [List.all_cons, Bool.and_eq_true] at hall
      have e1 := Option.some.inj e
      rw [← e1, h1, List.map_cons]
      refine Reps.cons (h2.rest hall.1) (ih h3 ?_)
      unfold fzs; rw [if_pos hall.2]
    · cases e
theorem RelE.ext (r : RelE g c H o σ ρ) (e : E c H c' H') (hx : ∀ a ∈ c.x, a ∉ c.m) : RelE g c' H' o σ ρ where
  len := r.len
  val := fun i d h => let ⟨v, h1, h2⟩ := r.val i d h; ⟨v, h1, Rep.cy e.cy _ _ h2⟩
  own := fun i xs h => by
    obtain ⟨a, vs, h1, h2, h3, h4⟩ := r.own i xs h
    exact ⟨a, vs, h1, h2, (e.keep _ _ h3 (hx _ (r.sub _ _ h2))).1, Reps.cy e.cy _ _ h4⟩
  exc := fun i k fs h => let ⟨a, h1, h2⟩ := r.exc i k fs h; ⟨a, h1, h2.cy e.cy e.su⟩
  sub := fun i a h => by rw [e.x]; exact r.sub i a h
  uni := r.uni

/-- what has come: the value d as v, the cells S' -/
structure Got (g : Wd) (c : Ct) (H : Hp) (c' : Ct) (H' : Hp) (d : D) (v : V) (S' : Sto) : Prop where
  e : E c H c' H'
  r : RepT g c' H' d v
  s : RelS g c' H' S'
  n : ∀ xs, d = .new xs → ∃ a vs, v = .ref a ∧ H a = none ∧ RelS g (c'.plus a) H' S' ∧ H' a = some (.lst vs) ∧ Reps g (c'.plus a) H' xs vs
theorem Got.shift (e : E c H c1 H1) (h : Got g c1 H1 c' H' d v S') : Got g c H c' H' d v S' :=
  ⟨e.trans h.e, h.r, h.s, fun xs z => let ⟨a, vs, h1, h2, h3⟩ := h.n xs z; ⟨a, vs, h1, e.free h2, h3⟩⟩
/-- a value that is no new list -/
theorem Got.of (e : E c H c' H') (r : RepT g c' H' d v) (s : RelS g c' H' S') (hd : ∀ xs, d ≠ .new xs) : Got g c H c' H' d v S' := ⟨e, r, s, fun xs z => absurd z (hd xs)⟩
structure Gots (g : Wd) (c : Ct) (H : Hp) (c' : Ct) (H' : Hp) (ds : List D) (vs : List V) (S' : Sto) : Prop where
  e : E c H c' H'
  r : RepTs g c' H' ds vs
  s : RelS g c' H' S'
/-- an exception's fields -/
def XRep (g : Wd) (c : Ct) (H : Hp) (k : Nat) (fs : List D) (dx : Option Addr) : Prop :=
  ∃ vs, vs.length = (g.cf k).length ∧ Reps g c H fs vs ∧ (fs = [] ∧ dx = none ∨ ∃ dd, dx = some dd ∧ Fx c H dd (.xd ((g.cf k).zip vs)))
abbrev WH := Value → Option Addr → Hp → Prop
/-- what is wanted of a result: of a value, of an exception -/
def Post (g : Wd) (c : Ct) (H : Hp) (W : WH) (Q : VK) : R D → Prop
  | .ok d S' => ∀ v H' c', Got g c H c' H' d v S' → Q v H'
  | .err k fs S' => ∀ H' c' dx, E c H c' H' → RelS g c' H' S' → XRep g c' H' k fs dx → W (.ref (g.ca k)) dx H'
  | .bad => False
def PostA (g : Wd) (c : Ct) (H : Hp) (W : WH) (Q : List V → Hp → Prop) : R (List D) → Prop
  | .ok ds S' => ∀ vs H' c', Gots g c H c' H' ds vs S' → Q vs H'
  | .err k fs S' => ∀ H' c' dx, E c H c' H' → RelS g c' H' S' → XRep g c' H' k fs dx → W (.ref (g.ca k)) dx H'
  | .bad => False
def PostB (g : Wd) (c : Ct) (H : Hp) (W : WH) (Q : Bool → Hp → Prop) : R Bool → Prop
  | .ok b S' => ∀ H' c', E c H c' H' → RelS g c' H' S' → Q b H'
  | .err k fs S' => ∀ H' c' dx, E c H c' H' → RelS g c' H' S' → XRep g c' H' k fs dx → W (.ref (g.ca k)) dx H'
  | .bad => False
theorem Post.shift {W : WH} {Q : VK} {r : R D} (e : E c H c1 H1) (h : Post g c H W Q r) : Post g c1 H1 W Q r := by
  cases r with
  | ok d S' => exact fun v H' c' q => h v H' c' (q.shift e)
  | err k fs S' => exact fun H' c' dx e' s x => h H' c' dx (e.trans e') s x
  | bad => exact h
theorem PostA.shift {W : WH} {Q : List V → Hp → Prop} {r : R (List D)} (e : E c H c1 H1) (h : PostA g c H W Q r) : PostA g c1 H1 W Q r := by
  cases r with
  | ok d S' => exact fun v H' c' q => h v H' c' ⟨e.trans q.e, q.r, q.s⟩
  | err k fs S' => exact fun H' c' dx e' s x => h H' c' dx (e.trans e') s x
  | bad => exact h
theorem PostB.shift {W : WH} {Q : Bool → Hp → Prop} {r : R Bool} (e : E c H c1 H1) (h : PostB g c H W Q r) : PostB g c1 H1 W Q r := by
  cases r with
  | ok d S' => exact fun H' c' e' s => h H' c' (e.trans e') s
  | err k fs S' => exact fun H' c' dx e' s x => h H' c' dx (e.trans e') s x
  | bad => exact h
/-- the first part, then the rest -/
theorem Post.bind {W : WH} {Q Q1 : VK} {r : R D} {k : D → Sto → R D} (h : Post g c H W Q (r.bind k))
    (hk : ∀ d S' v H' c', r = .ok d S' → Got g c H c' H' d v S' → Post g c' H' W Q (k d S') → Q1 v H') : Post g c H W Q1 r := by
  cases r with
  | ok d S' => exact fun v H' c' q => hk d S' v H' c' rfl q (Post.shift q.e h)
  | err k fs S' => exact h
  | bad => exact h
theorem Post.bindA {W : WH} {Q : VK} {Q1 : List V → Hp → Prop} {r : R (List D)} {k : List D → Sto → R D} (h : Post g c H W Q (r.bind k))
    (hk : ∀ ds S' vs H' c', r = .ok ds S' → Gots g c H c' H' ds vs S' → Post g c' H' W Q (k ds S') → Q1 vs H') : PostA g c H W Q1 r := by
  cases r with
  | ok d S' => exact fun v H' c' q => hk d S' v H' c' rfl q (Post.shift q.e h)
  | err k fs S' => exact h
  | bad => exact h

/-- the reading of an evaluation -/
def LT (g : Wd) (su : Option (Addr × Value × Option Addr)) (W : WX) (ev : Ev → Sto → R D) : TE := fun σ H Q =>
  ∃ c S ρ o, c.su = su ∧ RelS g c H S ∧ RelE g c H o σ ρ ∧ Post g c H (fun cls dx H' => W cls dx σ H') Q (ev ρ S)
def LA (g : Wd) (su : Option (Addr × Value × Option Addr)) (W : WX) (ev : Ev → Sto → R (List D)) : TA := fun σ H Q =>
  ∃ c S ρ o, c.su = su ∧ RelS g c H S ∧ RelE g c H o σ ρ ∧ PostA g c H (fun cls dx H' => W cls dx σ H') Q (ev ρ S)
def LB (g : Wd) (su : Option (Addr × Value × Option Addr)) (W : WX) (ev : Ev → Sto → R Bool) : TT := fun σ H Q =>
  ∃ c S ρ o, c.su = su ∧ RelS g c H S ∧ RelE g c H o σ ρ ∧ PostB g c H (fun cls dx H' => W cls dx σ H') Q (ev ρ S)
end
section
variable {X : Cx} {e : Expr} {t t' : TE}
theorem PE.imp (h : PE X e t) (i : ∀ σ H Q, t' σ H Q → t σ H Q) : PE X e t' := ⟨fun pins s σ H Q I q => h.run pins s σ H Q I (i σ H Q q)⟩
theorem PE.sem (h : ∀ σ H Q, t' σ H Q → ∃ t, PE X e t ∧ t σ H Q) : PE X e t' := ⟨fun pins s σ H Q I q => let ⟨_, p, q'⟩ := h σ H Q q; p.run pins s σ H Q I q'⟩
theorem PA.imp {es : List Expr} {t t' : TA} (h : PA X es t) (i : ∀ σ H Q, t' σ H Q → t σ H Q) : PA X es t' := ⟨fun pos pins s σ H Q I q => h.run pos pins s σ H Q I (i σ H Q q)⟩
theorem PT.imp {t t' : TT} (h : PT X e t) (i : ∀ σ H Q, t' σ H Q → t σ H Q) : PT X e t' := ⟨fun pins s σ H Q I q => h.run pins s σ H Q I (i σ H Q q)⟩
theorem PW.imp {t t' : TT} (h : PW X e t) (i : ∀ σ H Q, t' σ H Q → t σ H Q) : PW X e t' := ⟨fun w pins s σ H Q I q => h.run w pins s σ H Q I (i σ H Q q)⟩
theorem PS.imp {st : Stmt} {t t' : TS} (h : PS X st t) (i : ∀ D σ H, t' D σ H → t D σ H) : PS X st t' := ⟨fun pins s σ H D I q => h.run pins s σ H D I (i D σ H q)⟩
theorem PSs.imp {st : List Stmt} {t t' : TS} (h : PSs X st t) (i : ∀ D σ H, t' D σ H → t D σ H) : PSs X st t' := ⟨fun pins s σ H D I q => h.run pins s σ H D I (i D σ H q)⟩
theorem PS.sem {st : Stmt} {t' : TS} (h : ∀ D σ H, t' D σ H → ∃ t, PS X st t ∧ t D σ H) : PS X st t' := ⟨fun pins s σ H D I q => let ⟨_, p, q'⟩ := h D σ H q; p.run pins s σ H D I q'⟩
end
end Tk
/-! Core 5: the text read as the small language; expressions. -/
namespace Tk
open PySem PySem.Spec PyProof.Rows L2

/-! ### rules of calls whose wish knows the slots -/
section
variable {X : Cx} {CX : CXT} {k : Nat} {f C : Addr} {fd : FuncData} {ps : List Str} {sp : Sp} {E : L2.St → XK} {x m : Str} {p pos apos : Pos} {e o : Expr} {es : List Expr} {ta : TE} {t : TA}
theorem pe_call0S (F : FnOk X.prog X.w X.K X.mg X.base CX k f fd ps sp) (hr : Room k X.A) (hg : Gl X x) (hm : X.mg x = some (.ref f)) (hk : PySem.W.keepIn X.K (.ref f) = true) (hb : Binds X.K fd ps []) (hx : ∀ σ, PassesAt CX X σ (E σ))
    (hdb : (x == ("__debug__" : Str)) = false) : PE X (.Call (.Name x p) [] [] pos) (tCallS sp E tNil) := by
  refine ⟨fun pins s σ H Q I h => ?_⟩
  refine wpAny_Call_Name_kw (ld_glob I hg hm ?_ hdb)
  exact PySem.W.callWith_K0 I.kIn hk (run_fnS (us := []) F hr hb (hx σ) I .nil h)
def tMethS (C : Addr) (m : Str) (sp : Sp) (E : L2.St → XK) (ta : TE) (t : TA) : TE := fun σ H Q => ta σ H fun x H1 => ∃ a dx fs, x = .ref a ∧ H1 a = some (.ins C dx fs) ∧ fs.lookup m = none ∧
  t σ H1 fun vs H2 => sp (x :: vs) H2 Q (E σ)
theorem pe_methSS {pl : Sem Bool} (he : PE X o ta) (c : Cls X.K C) (hm : Meth X.K C m f) (F : FnOk X.prog X.w X.K X.mg X.base CX k f fd ps sp) (hr : Room k X.A) (hb : Binds X.K fd ps []) (hx : ∀ σ, PassesAt CX X σ (E σ)) (ha : PA X (e :: es) t)
    (hst : starEach (e :: es) X.env = (false, eval e X.env) :: starEach es X.env) (hpl : (backTo pos (starEach es X.env)).any (·.1) = false)
    (ht : eval (.Call (.Attribute o m apos) (e :: es) [] pos) X.env = (do
      let ov ← eval o X.env
      standAt apos.atName
      let (f, first) ← holding [ov] (getMethod ov m pl)
      callWith pos f first (backTo pos (starEach (e :: es) X.env)) (backToKw pos (keywordEach [] X.env))) := by rfl) :
    PE X (.Call (.Attribute o m apos) (e :: es) [] pos) (tMethS C m sp E ta t) := by
  refine ⟨fun pins s σ H Q I h => ?_⟩
  refine PySem.W.methodCall_KW (pl := pl) (thn (he.run pins s σ H _ I h) fun u s1 ⟨x, H1, I1, rx, a, dx, fs, ex, ea, l, q⟩ => ?_) ht
  subst ex
  obtain rfl : u = Value.ref a := rx
  refine getmeth_ok I1 ea c hm l ?_
  refine PySem.W.callWith_K (first := [.ref a]) (h₀ := X.base) I.ok.mod.kin hm.kp (thn (ha.run pos pins s1 σ H1 _ I1 q) fun us s2 ⟨vs, H2, I2, r, q2⟩ => ⟨I2.kIn, ?_⟩) hst hpl
  exact run_fnS (us := .ref a :: us) (vs := .ref a :: vs) F hr hb (hx σ) I2 (.cons rfl r) q2
theorem pe_methSS0 {pl : Sem Bool} (he : PE X o ta) (c : Cls X.K C) (hm : Meth X.K C m f) (F : FnOk X.prog X.w X.K X.mg X.base CX k f fd ps sp) (hr : Room k X.A) (hb : Binds X.K fd ps []) (hx : ∀ σ, PassesAt CX X σ (E σ))
    (ht : eval (.Call (.Attribute o m apos) [] [] pos) X.env = (do
      let ov ← eval o X.env
      standAt apos.atName
      let (f, first) ← holding [ov] (getMethod ov m pl)
      callWith pos f first (backTo pos (starEach [] X.env)) (backToKw pos (keywordEach [] X.env))) := by rfl) :
    PE X (.Call (.Attribute o m apos) [] [] pos) (tMethS C m sp E ta tNil) := by
  refine ⟨fun pins s σ H Q I h => ?_⟩
  refine PySem.W.methodCall_KW (pl := pl) (thn (he.run pins s σ H _ I h) fun u s1 ⟨x, H1, I1, rx, a, dx, fs, ex, ea, l, q⟩ => ?_) ht
  subst ex
  obtain rfl : u = Value.ref a := rx
  refine getmeth_ok I1 ea c hm l ?_
  exact PySem.W.callWith_K0 (first := [.ref a]) I1.kIn hm.kp (run_fnS (us := [.ref a]) (vs := [.ref a]) F hr hb (hx σ) I1 (.cons rfl .nil) q)
theorem run_makeS {pins : List (Addr × Obj)} {σ : L2.St} {H : Hp} {s : Shared} {Q : VK} {us : List Value} {vs : List V} (M : Mk X.K C f) (F : FnOk X.prog X.w X.K X.mg X.base CX k f fd ps sp) (hr : Room (k + 1) X.A) (hb : Binds X.K fd ps [])
    (hx : PassesAt CX X σ (E σ)) (I : Inv X pins σ H s) (r : Vals vs us)
    (h : ∀ x dx, H x = none → H dx = none → dx ≠ x → sp (.ref x :: vs) (upd (upd H dx (.own x)) x (.ins C dx [])) (fun v H2 => v = .non ∧ Q (.ref x) H2) (E σ)) :
    wpAny (model X.prog X.w) X.A (PySem.call (.ref C) us) (EP X pins σ Q) X.xe s := by
  have hq := h (s.heap.objs.size + 1) s.heap.objs.size (I.hok.fresh (Nat.le_succ _)) (I.hok.fresh (Nat.le_refl _)) (Nat.ne_of_lt (Nat.lt_succ_self _))
  have I2 := Inv.made (C := C) I
  have r2 : Vals (V.ref (s.heap.objs.size + 1) :: vs) (Value.ref (s.heap.objs.size + 1) :: us) := .cons rfl r
  have hl : (Value.ref (s.heap.objs.size + 1) :: us).length = ps.length := by
    have e := r2.length
    rw [F.len _ _ _ _ hq] at e
    exact e.symm
  have bb := hb _ (Value.ref (s.heap.objs.size + 1) :: us) I2.kIn (by rw [List.append_nil]; exact hl)
  rw [List.append_nil] at bb
  refine wpAny_call (make_map (f := f) I.kIn M.makes M.init (beq_iff_eq.mp M.fn) (codeAny_mono (F.run _ X.stack _ _ ⟨Value.ref (s.heap.objs.size + 1) :: us, []⟩ (Value.ref (s.heap.objs.size + 1) :: us) _ _ (E σ) (hr.make C us [])
    (I2.env0.make C us []) bb r2 hq) fun r s' hq' => ?_))
  cases r with
  | error e => exact hx pins _ _ e s' I2 hq'
  | ok fl =>
    cases fl with
    | ret u =>
      obtain ⟨v, H', I3, rv, ev, q3⟩ := I2.after hq'
      subst ev
      exact ⟨rv, ⟨V.ref (s.heap.objs.size + 1), H', I3, rfl, q3⟩⟩
    | next => exact False.elim hq'
    | brk => exact False.elim hq'
    | cont => exact False.elim hq'
def tMakeS (C : Addr) (sp : Sp) (E : L2.St → XK) (t : TA) : TE := fun σ H Q => t σ H fun vs H1 => ∀ x dx, H1 x = none → H1 dx = none → dx ≠ x →
  sp (.ref x :: vs) (upd (upd H1 dx (.own x)) x (.ins C dx [])) (fun v H2 => v = .non ∧ Q (.ref x) H2) (E σ)
theorem pe_makeS (M : Mk X.K C f) (F : FnOk X.prog X.w X.K X.mg X.base CX k f fd ps sp) (hr : Room (k + 1) X.A) (hg : Gl X x) (hm : X.mg x = some (.ref C)) (hb : Binds X.K fd ps []) (hx : ∀ σ, PassesAt CX X σ (E σ))
    (ha : PA X (e :: es) t) (hdb : (x == ("__debug__" : Str)) = false) (he : starEach (e :: es) X.env = (false, eval e X.env) :: starEach es X.env) (hpl : (backTo pos (starEach es X.env)).any (·.1) = false) :
    PE X (.Call (.Name x p) (e :: es) [] pos) (tMakeS C sp E t) := by
  refine ⟨fun pins s σ H Q I h => ?_⟩
  refine wpAny_Call_Name_kw (ld_glob I hg hm ?_ hdb)
  refine PySem.W.callWith_K (h₀ := X.base) I.ok.mod.kin M.kp (thn (ha.run pos pins s σ H _ I h) fun us s1 ⟨vs, H1, I1, r, q⟩ => ⟨I1.kIn, ?_⟩) he hpl
  exact run_makeS M F hr hb (hx σ) I1 r q
end

/-! ### arguments without a star -/
def plainX : Expr → Bool
  | .Starred _ _ => false
  | _ => true
theorem star_cons {e : Expr} {es : List Expr} {env : Env} (h : plainX e = true) : starEach (e :: es) env = (false, eval e env) :: starEach es env := by
  cases e <;> first | rfl | cases h
theorem star_plain {pos : Pos} {env : Env} : ∀ {es : List Expr}, es.all plainX = true → (backTo pos (starEach es env)).any (·.1) = false
  | [], _ => rfl
  | e :: es, h => by
    rw [List.all_cons, Bool.and_eq_true] at h
    rw [star_cons h.1]
    exact star_plain h.2
end Tk
/-! Core 6: values and operators. -/
namespace Tk
open PySem PySem.Spec PyProof.Rows L2

section
variable {K : PySem.W.Frag} {g : Wd} {c : Ct} {H : Hp} {S : Sto} {d : D} {v : V} {a : Addr} {vs : List V} {xs : List D}
theorem rep_ref {xs : List D} (h : RepT g c H (.lst xs) v) : ∃ a vs, v = .ref a ∧ Fx c H a (.lst vs) ∧ Reps g c H xs vs := by
  change Rep g c H _ v at h; rw [Rep] at h; exact h
/-- a list, a tuple, as it lies -/
theorem seq_at (hK : g.K = K) (r : RelS g c H S) (h : RepT g c H d v) (e : seqOf S d = some xs) :
    ∃ a vs, v = .ref a ∧ (SqL K H a vs ∨ SqT K H a vs) ∧ Reps g c H xs vs ∧ (∀ ys, d = .tup ys → SqT K H a vs) ∧ ((∀ ys, d ≠ .tup ys) → SqL K H a vs) := by
  subst hK
  cases d with
  | tup ys =>
    have e1 : ys = xs := Option.some.inj e
    subst e1
    change Rep g c H _ v at h; rw [Rep] at h
    obtain ⟨a, vs, h1, h2, h3⟩ := h
    have z : SqT g.K H a vs := h2.elim (fun q => .inl (.inl q.1)) fun q => .inr q
    exact ⟨a, vs, h1, .inr z, h3, fun _ _ => z, fun q => absurd rfl (q _)⟩
  | lst ys =>
    have e1 : ys = xs := Option.some.inj e
    subst e1
    obtain ⟨a, vs, h1, h2, h3⟩ := rep_ref h
    exact ⟨a, vs, h1, .inl (.inl (.inl h2.1)), h3, fun _ q => (by cases q), fun _ => .inl (.inl h2.1)⟩
  | new ys =>
    have e1 : ys = xs := Option.some.inj e
    subst e1
    obtain ⟨a, vs, h1, h2, h3⟩ := h
    exact ⟨a, vs, h1, .inl (.inl (.inl h2.1)), h3, fun _ q => (by cases q), fun _ => .inl (.inl h2.1)⟩
  | own i ys =>
    have e1 : ys = xs := Option.some.inj e
    subst e1
    obtain ⟨a, vs, h1, h2, h3, h4⟩ := h
    exact ⟨a, vs, h1, .inl (.inl (.inl h2)), h4, fun _ q => (by cases q), fun _ => .inl (.inl h2)⟩
  | scr ys =>
    have e1 : ys = xs := Option.some.inj e
    subst e1
    change Rep g c H _ v at h; rw [Rep] at h
    obtain ⟨a, vs, h1, h2, h3⟩ := h
    have z : SqL g.K H a vs := h2.sq
    exact ⟨a, vs, h1, .inl z, h3, fun _ q => (by cases q), fun _ => z⟩
  | loc k =>
    change Rep g c H _ v at h; rw [Rep] at h
    obtain ⟨a, h1, h2⟩ := h
    obtain ⟨ce, h3, h4⟩ := r.at h2
    have e2 : (match S[k]? with | some (.lst xs) => some xs | _ => none) = some xs := e
    rw [h3] at e2
    cases ce with
    | lst ys =>
      have e1 : ys = xs := Option.some.inj e2
      subst e1
      obtain ⟨vs, h5, h6⟩ := h4
      exact ⟨a, vs, h1, .inl (.inl (.inl h5)), h6, fun _ q => (by cases q), fun _ => .inl (.inl h5)⟩
    | ins q fs => cases e2
  | _ => cases e
theorem sq_empty (h : Reps g c H xs vs) : (!vs.isEmpty) = !xs.isEmpty := by
  have := h.length
  cases xs <;> cases vs <;> simp_all
/-- what the truth of a value is -/
theorem tru_at (hK : g.K = K) (r : RelS g c H S) (h : RepT g c H d v) {b : Bool} (e : truth S d = some b) : TruV K v H b := by
  have seqs : ∀ xs, seqOf S d = some xs → truth S d = some (!xs.isEmpty) → TruV K v H b := by
    intro xs e1 e2
    obtain ⟨a, vs, h1, h2, h3, _⟩ := seq_at hK r h e1
    rw [e2] at e
    have eb := Option.some.inj e
    subst h1
    have ev := sq_empty h3
    rcases h2 with h2 | h2
    · exact .inl ⟨vs, h2, by rw [ev, eb]⟩
    · exact .inr (.inl ⟨vs, h2, by rw [ev, eb]⟩)
  cases d with
  | non => change Rep g c H _ v at h; rw [Rep] at h; subst h; exact (Option.some.inj e).symm
  | bl q => change Rep g c H _ v at h; rw [Rep] at h; subst h; exact (Option.some.inj e).symm
  | int i => change Rep g c H _ v at h; rw [Rep] at h; subst h; exact (Option.some.inj e).symm
  | tup xs => exact seqs xs rfl rfl
  | lst xs => exact seqs xs rfl rfl
  | new xs => exact seqs xs rfl rfl
  | scr xs => exact seqs xs rfl rfl
  | own i xs => exact seqs xs rfl rfl
  | dic0 =>
    change Rep g c H _ v at h; rw [Rep] at h
    obtain ⟨a, h1, h2⟩ := h
    subst h1
    exact .inr (.inr ⟨[], h2.1, (Option.some.inj e).symm⟩)
  | loc k =>
    have e2 : (match S[k]? with | some (.lst xs) => some (!xs.isEmpty) | _ => none) = some b := e
    cases q : S[k]? with
    | none => rw [q] at e2; cases e2
    | some ce =>
      cases ce with
      | lst xs => exact seqs xs (by simp [seqOf, q]) (by simp [truth, q])
      | ins _ _ => rw [q] at e2; cases e2
  | _ => cases e

/-! ### == of data -/
mutual
def py : D → PyData
  | .bl b => .bool b
  | .int i => .int i
  | .str s => .str s
  | .tup xs => .tuple (pys xs)
  | .lst xs => .list (pys xs)
  | _ => .none
def pys : List D → List PyData
  | [] => []
  | x :: xs => py x :: pys xs
end
mutual
theorem dat_ok : ∀ (d : D) (n : Nat), dat d n = true → (py d).canLay0 = true ∧ (py d).depth ≤ n
  | .non, _, _ => ⟨rfl, by simp [py, PyData.depth]⟩
  | .bl _, _, _ => ⟨rfl, by simp [py, PyData.depth]⟩
  | .int _, _, _ => ⟨rfl, by simp [py, PyData.depth]⟩
  | .str s, _, h => ⟨by simpa [dat, py, PyData.canLay0, PyData.strOk] using h, by simp [py, PyData.depth]⟩
  | .tup xs, n + 1, h => by
    rw [dat] at h
    obtain ⟨h1, h2⟩ := dats_ok xs n h
    exact ⟨by simpa [py, PyData.canLay0] using h1, by simp [py, PyData.depth]; omega⟩
  | .lst xs, n + 1, h => by
    rw [dat] at h
    obtain ⟨h1, h2⟩ := dats_ok xs n h
    exact ⟨by simpa [py, PyData.canLay0] using h1, by simp [py, PyData.depth]; omega⟩
  | .tup xs, 0, h => by simp [dat] at h
  | .lst xs, 0, h => by simp [dat] at h
  | .obj _ _, _, h => by simp [dat] at h
  | .dic0, _, h => by simp [dat] at h
  | .scr _, _, h => by simp [dat] at h
  | .loc _, _, h => by simp [dat] at h
  | .own _ _, _, h => by simp [dat] at h
  | .new _, _, h => by simp [dat] at h
  | .exn _ _, _, h => by simp [dat] at h
theorem dats_ok : ∀ (xs : List D) (n : Nat), dats xs n = true → PyData.canLayAll0 (pys xs) = true ∧ PyData.depthAll (pys xs) ≤ n
  | [], n, _ => ⟨rfl, by simp [pys, PyData.depthAll]⟩
  | x :: xs, n, h => by
    rw [dats, Bool.and_eq_true] at h
    obtain ⟨h1, h2⟩ := dat_ok x n h.1
    obtain ⟨h3, h4⟩ := dats_ok xs n h.2
    exact ⟨by simp [pys, PyData.canLayAll0, h1, h3], by simp [pys, PyData.depthAll]; omega⟩
end
mutual
theorem eqv_eq : ∀ (a b : D) (n : Nat), dat a n = true → dat b n = true → PyData.eqv (py a) (py b) = eqB a b := by
  intro a b n ha hb
  cases a <;> (try (simp [dat] at ha; done)) <;> cases b <;> (try (simp [dat] at hb; done)) <;> (try (simp [py, PyData.eqv, eqB]; done))
  case tup.tup xs ys =>
    cases n with
    | zero => simp [dat] at ha
    | succ n =>
      rw [dat] at ha hb
      simp only [py, PyData.eqv, eqB]
      exact eqvs_eq xs ys n ha hb
  case lst.lst xs ys =>
    cases n with
    | zero => simp [dat] at ha
    | succ n =>
      rw [dat] at ha hb
      simp only [py, PyData.eqv, eqB]
      exact eqvs_eq xs ys n ha hb
theorem eqvs_eq : ∀ (xs ys : List D) (n : Nat), dats xs n = true → dats ys n = true → PyData.eqvAll (pys xs) (pys ys) = eqBs xs ys
  | [], [], _, _, _ => by simp [pys, PyData.eqvAll, eqBs]
  | [], _ :: _, _, _, _ => by simp [pys, PyData.eqvAll, eqBs]
  | _ :: _, [], _, _, _ => by simp [pys, PyData.eqvAll, eqBs]
  | x :: xs, y :: ys, n, hx, hy => by
    rw [dats, Bool.and_eq_true] at hx hy
    simp only [pys, PyData.eqvAll, eqBs]
    rw [eqv_eq x y n hx.1 hy.1, eqvs_eq xs ys n hx.2 hy.2]
end
mutual
theorem dp_of (hK : g.K = K) : ∀ (d : D) (v : V) (n : Nat), dat d n = true → Rep g c H d v → Dp K H v (py d)
  | .non, v, _, _, h => by rw [Rep] at h; subst h; exact .non
  | .bl b, v, _, _, h => by rw [Rep] at h; subst h; exact .bl b
  | .int i, v, _, _, h => by rw [Rep] at h; subst h; exact .int i
  | .str s, v, _, _, h => by rw [Rep] at h; subst h; exact .str s
  | .tup xs, v, n + 1, hd, h => by
    rw [Rep] at h
    rw [dat] at hd
    obtain ⟨a, vs, h1, h2, h3⟩ := h
    subst h1
    rw [py]
    exact .tup (h2.elim (fun q => .inl (.inl q.1)) fun q => .inr (by rw [← hK]; exact q)) (dps_of hK xs vs n hd h3)
  | .lst xs, v, n + 1, hd, h => by
    rw [Rep] at h
    rw [dat] at hd
    obtain ⟨a, vs, h1, h2, h3⟩ := h
    subst h1
    rw [py]
    exact .lst (.inl (.inl h2.1)) (dps_of hK xs vs n hd h3)
  | .tup xs, _, 0, h, _ => by simp [dat] at h
  | .lst xs, _, 0, h, _ => by simp [dat] at h
  | .obj _ _, _, _, h, _ => by simp [dat] at h
  | .dic0, _, _, h, _ => by simp [dat] at h
  | .scr _, _, _, h, _ => by simp [dat] at h
  | .loc _, _, _, h, _ => by simp [dat] at h
  | .own _ _, _, _, h, _ => by simp [dat] at h
  | .new _, _, _, h, _ => by simp [dat] at h
  | .exn _ _, _, _, h, _ => by simp [dat] at h
theorem dps_of (hK : g.K = K) : ∀ (xs : List D) (vs : List V) (n : Nat), dats xs n = true → Reps g c H xs vs → DpAll K H vs (pys xs)
  | [], vs, _, _, h => by rw [Reps] at h; subst h; rw [pys]; exact .nil
  | x :: xs, vs, n, hd, h => by
    rw [Reps] at h
    rw [dats, Bool.and_eq_true] at hd
    obtain ⟨v, r, h1, h2, h3⟩ := h
    subst h1
    rw [pys]
    exact .cons (dp_of hK x v n hd.1 h2) (dps_of hK xs r n hd.2 h3)
end
/-- a passing list read as data -/
theorem dp_rd (hK : g.K = K) (r : RelS g c H S) (h : RepT g c H d v) {n : Nat} (hd : dat (rd S d) n = true) : Dp K H v (py (rd S d)) := by
  cases d with
  | loc k =>
    cases q : S[k]? with
    | none => simp [rd, q, dat] at hd
    | some ce =>
      cases ce with
      | ins _ _ => simp [rd, q, dat] at hd
      | lst xs =>
        have e : rd S (.loc k) = .lst xs := by simp [rd, q]
        rw [e] at hd ⊢
        obtain ⟨a, vs, h1, h2, h3, _, h5⟩ := seq_at hK r h (xs := xs) (by simp [seqOf, q])
        subst h1
        cases n with
        | zero => simp [dat] at hd
        | succ n =>
          rw [dat] at hd
          rw [py]
          exact .lst (h5 fun _ z => by cases z) (dps_of hK xs vs n hd h3)
  | own i xs =>
    have e : rd S (.own i xs) = .lst xs := rfl
    rw [e] at hd ⊢
    obtain ⟨a, vs, h1, h2, h3, _, h5⟩ := seq_at hK r h (xs := xs) rfl
    subst h1
    cases n with
    | zero => simp [dat] at hd
    | succ n =>
      rw [dat] at hd
      rw [py]
      exact .lst (h5 fun _ z => by cases z) (dps_of hK xs vs n hd h3)
  | new xs =>
    have e : rd S (.new xs) = .lst xs := rfl
    rw [e] at hd ⊢
    obtain ⟨a, vs, h1, h2, h3, _, h5⟩ := seq_at hK r h (xs := xs) rfl
    subst h1
    cases n with
    | zero => simp [dat] at hd
    | succ n =>
      rw [dat] at hd
      rw [py]
      exact .lst (h5 fun _ z => by cases z) (dps_of hK xs vs n hd h3)
  | exn k fs => simp [rd, fz, dat] at hd
  | _ => exact dp_of (c := c) hK _ _ n hd h
end

/-! ### operators on ints -/
def toOp : Bi → Operator
  | .add => .Add | .sub => .Sub | .mul => .Mult | .fdiv => .FloorDiv | .mod => .Mod | .pow => .Pow
theorem mulOk_ok {i j : Int} (h : mulOk i j) : IntMulOk i j := by
  have b : ∀ x : Int, Builtin.Int.intBits x ≤ x.natAbs.log2 + 1 := fun x => by
    unfold Builtin.Int.intBits
    split <;> omega
  have h1 := b i
  have h2 := b j
  have h3 : i.natAbs.log2 + j.natAbs.log2 < 100000000 := h
  have e : bitsLine = 134217728 := by decide
  unfold IntMulOk
  intro z
  rw [Bool.and_eq_true] at z
  have z2 := z.2
  unfold Builtin.Int.intTooBig at z2
  have z3 := of_decide_eq_true z2
  rw [e] at z3
  omega
section
variable {X : Cx}
theorem opr_mul : OpR X (binaryOp .Mult) (rI mulOk fun i j => .int (i * j)) := opI fun _ _ _ _ _ _ _ hc q => mul_int q (mulOk_ok hc)
theorem opr_fdiv : OpR X (binaryOp .FloorDiv) (rI (fun _ j => divOk j) fun i j => .int (i.fdiv j)) := opI fun _ _ _ _ _ _ _ hc q => floordiv_int hc.1 q (.inl (PyProof.noPylong_of_log2 hc.2))
/-- the int that an operator gives -/
def rInt (op : Bi) : R2 := fun x y H Q => ∃ i j z, x = .int i ∧ y = .int j ∧ (∀ S, binI op i j S = .ok (.int z) S) ∧ Q (.int z) H
theorem opr_int (op : Bi) : OpR X (binaryOp (toOp op)) (rInt op) := by
  intro pins s σ H x y v u Q I rx ry h
  obtain ⟨i, j, z, hx, hy, e, q⟩ := h
  have e := e []
  cases op with
  | add => have : i + j = z := by simpa [binI] using e
           subst this; exact op_add pins s σ H x y v u Q I rx ry ⟨i, j, hx, hy, q⟩
  | sub => have : i - j = z := by simpa [binI] using e
           subst this; exact op_sub pins s σ H x y v u Q I rx ry ⟨i, j, hx, hy, q⟩
  | mul =>
    by_cases hm : mulOk i j
    · have : i * j = z := by simpa [binI, hm] using e
      subst this; exact opr_mul pins s σ H x y v u Q I rx ry ⟨i, j, hx, hy, hm, q⟩
    · simp [binI, hm] at e
  | fdiv =>
    by_cases hm : divOk j
    · have : i.fdiv j = z := by simpa [binI, hm] using e
      subst this; exact opr_fdiv pins s σ H x y v u Q I rx ry ⟨i, j, hx, hy, hm, q⟩
    · simp [binI, hm] at e
  | mod =>
    by_cases hm : j ≠ 0
    · have : i.fmod j = z := by simpa [binI, hm] using e
      subst this; exact op_modN pins s σ H x y v u Q I rx ry ⟨i, j, hx, hy, hm, q⟩
    · simp [binI, hm] at e
  | pow =>
    by_cases hm : powOk i j
    · have : i ^ j.toNat = z := by simpa [binI, hm] using e
      subst this; exact op_pow pins s σ H x y v u Q I rx ry ⟨i, j, hx, hy, hm, q⟩
    · simp [binI, hm] at e
end
end Tk
/-! Core 7: the checker; what is known of the text. -/
namespace Tk
open PySem PySem.Spec PyProof.Rows L2

def visB (sc : Scope) (x : Str) : Bool := match sc.names.lookup x with
  | some .local => true
  | some .cell => true
  | some .free => true
  | _ => false
def locB (sc : Scope) (x : Str) : Bool := match sc.names.lookup x with
  | some .local => true
  | some .cell => true
  | _ => false
def loc1B (sc : Scope) (x : Str) : Bool := match sc.names.lookup x with
  | some .local => true
  | _ => false
def glB (sc : Scope) (x : Str) : Bool := match sc.names.lookup x with
  | some .globalImplicit => true
  | _ => false
def nmOk (x : Str) : Bool := !(x == ("__debug__" : Str)) && !(x == ("__classdict__" : Str))
def opB : Bi → Operator → Bool
  | .add, .Add => true
  | .sub, .Sub => true
  | .mul, .Mult => true
  | .fdiv, .FloorDiv => true
  | .mod, .Mod => true
  | .pow, .Pow => true
  | _, _ => false
def cmB : Cm → CmpOp → Bool
  | .eq, .Eq => true
  | .eq0, .Eq => true
  | .eqn, .Eq => true
  | .ne, .NotEq => true
  | .lt, .Lt => true
  | .le, .LtE => true
  | .gt, .Gt => true
  | .ge, .GtE => true
  | .isn, .Is => true
  | .notn, .IsNot => true
  | .isb _, .Is => true
  | .isnb _, .IsNot => true
  | .isin, .In => true
  | .notin, .NotIn => true
  | _, _ => false
/-- the right side of 'is' is the constant; of 'in' no display of a set -/
def rightB : Cm → CE → Bool
  | .isn, .non => true
  | .notn, .non => true
  | .isb b, .bl c => b == c
  | .isnb b, .bl c => b == c
  | .isn, _ => false
  | .notn, _ => false
  | .isb _, _ => false
  | .isnb _, _ => false
  | _, _ => true
def noSet : Expr → Bool
  | .Set _ _ _ => false
  | _ => true
def ixX : Expr → Bool
  | .Slice _ _ _ _ => false
  | _ => true
def tyNames : List String := ["int", "bool", "str", "tuple", "list", "dict", "ValueError"]
def btNm : Bt → Str
  | .len => "len" | .abs => "abs" | .int => "int" | .bool => "bool" | .list => "list" | .tuple => "tuple" | .max2 => "max" | .min2 => "min" | .sum => "sum" | .all => "all" | .any => "any" | .str => "str"
def btNo : Bt → Nat
  | .max2 => 2 | .min2 => 2 | _ => 1
/-- which of them are served -/
def btOk : Bt → Bool
  | .len | .abs | .int | .bool | .list | .tuple | .max2 | .min2 | .all => true
  | _ => false
def attrB : Expr → Bool
  | .Call (.Name _ _) [] _ _ => false
  | _ => true
/-- what may stand as a test -/
def tstX : Expr → Bool
  | .IfExp _ _ _ _ => false
  | _ => true
def opt (f : Expr → Bool) : Option Expr → Bool
  | some e => f e
  | none => false

def ckTs (N : List Str) : Scope → List Nat → List Expr → Bool
  | _, [], [] => true
  | sc, i :: is, .Name x _ :: fs => decide (N[i]? = some x) && locB sc x && ckTs N sc is fs
  | _, _, _ => false
def tgIx : Tg → List Nat
  | .nm i => [i]
  | .tp is => is
def ckT (N : List Str) : Scope → Tg → Expr → Bool
  | sc, .nm i, .Name x _ => decide (N[i]? = some x) && locB sc x
  | sc, .tp is, .Tuple fs _ _ => ckTs N sc is fs
  | _, _, _ => false
mutual
/-- a literal's text and its value -/
def isLit : CE → D → Bool
  | .int i, .int j => decide (i = j)
  | .tup es, .tup ds => decide (ds.length ≤ 1000) && isLits es ds
  | _, _ => false
def isLits : CEs → List D → Bool
  | .nil, [] => true
  | .cons e es, d :: ds => isLit e d && isLits es ds
  | _, _ => false
end
/-- a constant of the text -/
def gloB (G : Prog) (x : Str) (e : CE) : Bool := match G.glos.lookup x with
  | some d => isLit e d
  | none => false
/-- isinstance(x, (one, other)) -/
def isi2B (G : Prog) (N : List Str) (cm : Bool) (sc : Scope) (i j : Nat) (n1 n2 : String) (x z y1 y2 : Str) : Bool :=
  cm && decide (i = j) && decide (x = ("isinstance" : Str)) && glB sc x && decide (N[i]? = some z) && visB sc z && nmOk z && decide (n1 ∈ tyNames) && decide (n2 ∈ tyNames) && decide (y1 = Str.ofString n1) && decide (y2 = Str.ofString n2) && glB sc y1 && glB sc y2 && nmOk y1 && nmOk y2

mutual
def ck (G : Prog) (N : List Str) (cm : Bool) : Scope → CE → Expr → Bool
  | _, .never, _ => true
  | sc, .var i, .Name x _ => decide (N[i]? = some x) && visB sc x && nmOk x
  | _, .non, .Constant .none _ _ => true
  | _, .bl b, .Constant (.bool c) _ _ => b == c
  | _, .int i, .Constant (.int j) _ _ => decide (i = j)
  | _, .str s, .Constant (.str z) _ _ => decide (s = z)
  | _, .dic0, .Dict [] [] _ => true
  | sc, .neg a, .UnaryOp .USub e _ => cm && ck G N cm sc a e
  | sc, .not a, .UnaryOp .Not e _ => tstX e && ck G N cm sc a e
  | sc, .bin op a b, .BinOp e o f _ => cm && opB op o && ck G N cm sc a e && ck G N cm sc b f
  | sc, .cmp op a b, .Compare e [o] [f] _ => cm && cmB op o && rightB op b && noSet f && ck G N cm sc a e && ck G N cm sc b f
  | sc, .cmp2 o1 o2 a b c, .Compare e [p, q] [f, h] _ => cm && cmB o1 p && cmB o2 q && rightB o1 b && rightB o2 c && noSet f && noSet h && ck G N cm sc a e && ck G N cm sc b f && ck G N cm sc c h
  | sc, .and es, .BoolOp .And fs _ => ckAnd G N cm sc es fs
  | sc, .or es, .BoolOp .Or fs _ => ckAnd G N cm sc es fs
  | sc, .ite c a b, .IfExp t e f _ => tstX t && ck G N cm sc c t && ck G N cm sc a e && ck G N cm sc b f
  | sc, .tup es, .Tuple fs _ _ => cks G N cm sc es fs
  | sc, .lst es, .List fs _ => cks G N cm sc es fs
  | sc, .ix a b, .Subscript e f _ => ixX f && ck G N cm sc a e && ck G N cm sc b f
  | sc, .sl a lo hi, .Subscript e (.Slice l h none _) _ => ck G N cm sc a e && (match l with | none => lo.isNul | some f => ck G N cm sc lo f) && (match h with | none => hi.isNul | some f => ck G N cm sc hi f)
  | sc, .attr a f, .Attribute e x _ => attrB e && decide (G.attrs[f]? = some x) && ck G N cm sc a e
  | sc, .call f es, .Call (.Name x _) fs [] _ => cm && nmOk x && glB sc x && (match G.defs[f]? with
    | some d => d.cls.isNone && decide (d.name = x)
    | none => false) && cks G N cm sc es fs
  | sc, .make k f es, .Call (.Name x _) (e :: fs) [] _ => cm && nmOk x && glB sc x && G.cls? k && (match G.clss[k]?, G.defs[f]? with
    | some c, some d => decide (c.name = x) && decide (d.cls = some k) && decide (d.name = ("__init__" : Str))
    | _, _ => false) && cks G N cm sc es (e :: fs)
  | sc, .meth a m es, .Call (.Attribute o x p0) fs [] p1 => cm && attrB o && decide (fs.length < 30) && (p0.endLine == p1.line) && decide (G.attrs[m]? = some x) && ck G N cm sc a o && cks G N cm sc es fs
  | sc, .blt b es, .Call (.Name x _) (e :: fs) [] _ => cm && btOk b && decide (x = btNm b) && nmOk x && glB sc x && decide (fs.length + 1 = btNo b) && cks G N cm sc es (e :: fs)
  | sc, .isi a (.ty n), .Call (.Name x _) [e, .Name y _] [] _ => decide (x = ("isinstance" : Str)) && glB sc x && decide (n ∈ tyNames) && decide (y = Str.ofString n) && glB sc y && nmOk y && plainX e && ck G N cm sc a e
  | sc, .isi a (.own k), .Call (.Name x _) [e, .Name y _] [] _ => decide (x = ("isinstance" : Str)) && glB sc x && glB sc y && nmOk y && (match G.clss[k]? with
    | some c => decide (c.name = y)
    | none => false) && plainX e && ck G N cm sc a e
  | sc, .comp vs tg it cd el, .ListComp e [⟨t, i, ifs, 0⟩] sc1 _ => cm && blkC N sc sc1 (vs.filterMap fun v => (N[v]?).map fun x => (x, v)) && (vs.all fun v => decide (v < N.length)) && ((tgIx tg).all fun i => decide (i ∈ vs)) && ckT N sc1 tg t && ckI G N cm sc it t i && (match ifs with | [] => cd.isNul | [f] => tstX f && ck G N cm sc1 cd f | _ => false) && ck G N cm sc1 el e
  | sc, .int i, .Name x _ => glB sc x && nmOk x && gloB G x (.int i)
  | sc, .tup es, .Name x _ => glB sc x && nmOk x && gloB G x (.tup es)
  | sc, .or (.cons (.isi (.var i) (.ty n1)) (.cons (.isi (.var j) (.ty n2)) .nil)), .Call (.Name x _) [.Name z _, .Tuple [.Name y1 _, .Name y2 _] _ _] [] _ => isi2B G N cm sc i j n1 n2 x z y1 y2
  | _, _, _ => false
def ckAnd (G : Prog) (N : List Str) (cm : Bool) : Scope → CEs → List Expr → Bool
  | sc, .cons e .nil, [f] => tstX f && ck G N cm sc e f
  | sc, .cons e (.cons e2 es), f :: g :: fs => tstX f && ck G N cm sc e f && ckAnd G N cm sc (.cons e2 es) (g :: fs)
  | _, _, _ => false
def cks (G : Prog) (N : List Str) (cm : Bool) : Scope → CEs → List Expr → Bool
  | _, .nil, [] => true
  | sc, .cons e es, f :: fs => plainX f && ck G N cm sc e f && cks G N cm sc es fs
  | _, _, _ => false
def ckI (G : Prog) (N : List Str) (cm : Bool) : Scope → CI → Expr → Expr → Bool
  | sc, .range1 a, _, .Call (.Name x _) [e] [] _ => decide (x = ("range" : Str)) && glB sc x && plainX e && ck G N cm sc a e
  | sc, .range2 a b, _, .Call (.Name x _) [e, f] [] _ => decide (x = ("range" : Str)) && glB sc x && plainX e && plainX f && ck G N cm sc a e && ck G N cm sc b f
  | sc, .enum a, .Tuple _ _ _, .Call (.Name x _) [e] [] _ => decide (x = ("enumerate" : Str)) && glB sc x && plainX e && ck G N cm sc a e
  | sc, .zip a b, .Tuple _ _ _, .Call (.Name x _) [e, f] [] _ => decide (x = ("zip" : Str)) && glB sc x && plainX e && plainX f && ck G N cm sc a e && ck G N cm sc b f
  | sc, .rev a, _, .Call (.Name x _) [e] [] _ => decide (x = ("reversed" : Str)) && glB sc x && plainX e && ck G N cm sc a e
  | sc, .seq a, _, e => noSet e && ck G N cm sc a e
  | _, _, _, _ => false
end
end Tk
/-! Core 8: what is known of the text; first rules. -/
namespace Tk
open PySem PySem.Spec PyProof.Rows L2

abbrev Su := Option (Addr × Value × Option Addr)
def lv (n : Nat) : Nat := 4 * n + 1
def freeNames : List Str := ["len", "abs", "int", "bool", "list", "tuple", "max", "min", "isinstance", "range", "enumerate", "reversed", "zip", "str", "dict", "ValueError", "all"]
def noExn : D → Bool
  | .exn _ _ => false
  | _ => true
def okD (G : Prog) : D → Bool
  | .exn k _ => G.exc? k
  | _ => true
def okQ (G : Prog) : Ck → Bool
  | .ty n => decide (n ∈ tyNames)
  | .own k => (G.clss[k]?).isSome
theorem okD_of {G : Prog} {d : D} (h : noExn d = true) : okD G d = true := by cases d <;> first | rfl | cases h
def tyV (g : Wd) : D → Value
  | .non => .type "NoneType"
  | .bl _ => .type "bool"
  | .int _ => .type "int"
  | .str _ => .type "str"
  | .tup _ => .type "tuple"
  | .dic0 => .type "dict"
  | .obj k _ => .ref (g.ca k)
  | .exn k _ => .ref (g.ca k)
  | _ => .type "list"
def ckV (g : Wd) : Ck → Value
  | .ty n => .type n
  | .own k => .ref (g.ca k)
/-- a field of an exception's class, got -/
structure ExcAt (K : PySem.W.Frag) (C : Addr) (f : Str) : Prop where
  ga : PySem.W.findIn K (.ref C) "__getattribute__" = some (some (.builtin "BaseException.__getattribute__"))
  gg : PySem.W.findIn K (.ref C) "__getattr__" = some none
  no : PySem.W.findIn K (.ref C) f = some none
  ex : PySem.W.subIn K (.ref C) (.type "BaseException") = some true
  hd : PySem.W.hasDictIn K C = true
/-- a class with own operators -/
structure OpK (K : PySem.W.Frag) (C : Addr) (op : Operator) : Prop where
  first : PySem.W.selfFirst K C = true
  fo : ∃ fo, PySem.W.findIn K (.type "int") (PySem.dunder op.info.2) = some fo
  ro : ∃ ro, PySem.W.findIn K (.type "int") (PySem.dunderR op.info.2) = some ro
  sub : PySem.W.subIn K (.type "int") (.ref C) = some false
/-- what the top has written of the classes -/
structure Stat (G : Prog) (g : Wd) (mg : Str → Option Value) : Prop where
  cf : ∀ k c, G.clss[k]? = some c → g.cf k = c.fields
  mgc : ∀ k c, G.clss[k]? = some c → mg c.name = some (.ref (g.ca k))
  cls : ∀ k, G.cls? k = true → Cls g.K (g.ca k)
  small : ∀ (k : Nat) (c : ClsT), G.clss[k]? = some c → c.fields.length < 1000
  na : ∀ k c f, G.cls? k = true → G.clss[k]? = some c → f ∈ c.fields → NoAttr g.K (g.ca k) f
  exc : ∀ k c f, G.exc? k = true → G.clss[k]? = some c → f ∈ c.fields → ExcAt g.K (g.ca k) f
  excC : ∀ k, G.exc? k = true → L2.ExcC g.K (g.ca k)
  ops : ∀ (k : Nat) (c : ClsT) q, G.clss[k]? = some c → q ∈ c.ops → OpK g.K (g.ca k) (toOp q.1)
  exm : ∀ k j, G.exc? k = true → G.exc? j = true → PySem.W.exmOne g.K (.ref (g.ca k)) (.ref (g.ca j)) = some (G.subB k j)
  free : ∀ x ∈ freeNames, mg x = none
  glo : ∀ x d, G.glos.lookup x = some d → ∃ u v, mg x = some u ∧ RelV v u ∧ ∀ (c : Ct) (H : Hp), Rep g c H d v
  isi : ∀ d q b, okD G d = true → okQ G q = true → isiB G d q = some b → PySem.W.kitOne g.K (tyV g d) (ckV g q) = some b
  sub2 : ∀ k j, G.cls? k = true → G.cls? j = true → k ≠ j → PySem.W.subIn g.K (.ref (g.ca j)) (.ref (g.ca k)) = some false
  subT : ∀ k, G.cls? k = true → PySem.W.subIn g.K (.ref (g.ca k)) (.type "int") = some false ∧ PySem.W.subIn g.K (.ref (g.ca k)) (.type "bool") = some false
  tyo : ∀ k, G.cls? k = true → PySem.W.findIn g.K (.ref (g.ca k)) "__class__" = some (some (.builtin "object.__class__")) ∧
    PySem.W.specialIn g.K (.builtin "object.__class__") "__get__" = some (some (.builtin "getset_descriptor.__get__")) ∧ PySem.W.takesIn g.K (.builtin "object.__class__") = some true ∧ PySem.W.mroIn g.K (g.ca k) (.type "object") = some true
/-- the classes' own special methods stand where the table says -/
structure Wf (G : Prog) : Prop where
  eq : ∀ k c f, G.clss[k]? = some c → c.eq = some f → G.cls? k = true ∧ ∃ d, G.defs[f]? = some d ∧ d.cls = some k ∧ d.name = ("__eq__" : Str)
  neg : ∀ k c f, G.clss[k]? = some c → c.neg = some f → G.cls? k = true ∧ ∃ d, G.defs[f]? = some d ∧ d.cls = some k ∧ d.name = ("__neg__" : Str)
  ops : ∀ k c p, G.clss[k]? = some c → p ∈ c.ops → G.cls? k = true ∧ (∃ d, G.defs[p.2.1]? = some d ∧ d.cls = some k ∧ d.name = PySem.dunder (toOp p.1).info.2) ∧ ∃ d, G.defs[p.2.2]? = some d ∧ d.cls = some k ∧ d.name = PySem.dunderR (toOp p.1).info.2
  meths : ∀ k c p, G.clss[k]? = some c → p ∈ c.meths → G.cls? k = true ∧ ∃ d x, G.defs[p.2]? = some d ∧ d.cls = some k ∧ G.attrs[p.1]? = some x ∧ d.name = x ∧ x ∉ c.fields
def SpF (g : Wd) (cl : Cl) (np f : Nat) : Sp := fun vs H Q E => vs.length = np ∧ ∃ c S ds, c.su = none ∧ RelS g c H S ∧ Reps g c H ds vs ∧ Post g c H (fun cls dx H' => E cls dx H') Q (cl f ds S)
def Calls (G : Prog) (g : Wd) (P : Program) (w : World) (mg : Str → Option Value) (base : Heap) (n : Nat) : Prop :=
  ∀ f d, G.defs[f]? = some d → ∃ a fd ps, FnOk P w g.K mg base (L2.CX P w) (lv n) a fd ps (SpF g (Tk.call G n) d.np f) ∧ L2.Binds g.K fd ps [] ∧ ps.length = d.np ∧ PySem.W.keepIn g.K (.ref a) = true ∧
    (d.cls = none → mg d.name = some (.ref a)) ∧ ∀ k, d.cls = some k → Meth g.K (g.ca k) d.name a ∧ (d.name = ("__init__" : Str) → Mk g.K (g.ca k) a)

/-- what is said of the names holds in the running block too -/
structure ScOk (sc sc' : Scope) : Prop where
  vis : ∀ x, visB sc x = true → visB sc' x = true
  gl : ∀ x, glB sc x = true → glB sc' x = true
  cf : ∀ x, sc.names.lookup x = some .cell ∨ sc.names.lookup x = some .free → sc'.names.lookup x = some .cell ∨ sc'.names.lookup x = some .free
/-- names that may be stored to -/
def LocOk (sc : Scope) (X : Cx) : Prop := ∀ x, locB sc x = true → Loc X.env.scope x ∧ (X.fn x = true ∨ X.env.scope.names.lookup x = some .local)
/-- an exception's own __init__: one field set -/
def spO (C : Addr) (f : Str) : Sp := fun vs H Q _ => ∃ (a : Addr) (v : V), vs = [.ref a, v] ∧ H a = some (exo a C none) ∧ ∀ dx, H dx = none → dx ≠ a → Q .non (L2.upd (L2.upd H dx (exd dx [(f, v)])) a (exo a C (some dx)))
structure OexOk (P : Program) (w : World) (K : PySem.W.Frag) (mg : Str → Option Value) (base : Heap) (C : Addr) (f : Str) : Prop where
  T : OexC K C
  fn : ∃ fI fd pn, PySem.W.findIn K (.ref C) "__init__" = some (some (.ref fI)) ∧ PySem.W.typeIn K (.ref fI) = some (.type "function") ∧ FnOk P w K mg base (L2.CX P w) 1 fI fd ["self", pn] (spO C f) ∧ L2.Binds K fd ["self", pn] []
def Excs (G : Prog) (g : Wd) (P : Program) (w : World) (mg : Str → Option Value) (base : Heap) : Prop := ∀ (k : Nat) (c : ClsT) (f : Str), G.clss[k]? = some c → c.exc = true → c.fields = [f] → OexOk P w g.K mg base (g.ca k) f
structure Cok (G : Prog) (g : Wd) (n : Nat) (cm : Bool) (su : Su) (X : Cx) (W : WX) : Prop where
  K : g.K = X.K
  nd : X.N.Nodup
  tk : Takes X W
  cm : cm = true → X.calm = true ∧ Room (lv n + 3) X.A ∧ su = none
  st : Stat G g X.mg
  wf : Wf G
  calls : Calls G g X.prog X.w X.mg X.base n
  ex : Excs G g X.prog X.w X.mg X.base
  su : ∀ q, su = some q → ∃ (X0 : Cx) (oe : Obj) (pn : List (Addr × Obj)), X = Cx.suite X0 q.1 ((q.1, oe) :: pn) ∧ Zc q.2.1 q.2.2 oe ∧ ∃ vs, oe.data = .fields vs

section
variable {G : Prog} {g : Wd} {n : Nat} {cm : Bool} {su : Su} {X : Cx} {W : WX} {c : Ct} {H : Hp} {S : Sto} {ρ : Ev} {o : List (Nat × Addr)} {σ : L2.St} {Q : VK}
theorem vis_of {sc : Scope} {x : Str} (h : visB sc x = true) : Vis sc x := by
  unfold visB at h
  split at h
  · rename_i q; exact .inl q
  · rename_i q; exact .inr (.inl q)
  · rename_i q; exact .inr (.inr q)
  · cases h
theorem gl_of {x : Str} (h : glB X.env.scope x = true) : Gl X x := by
  unfold glB at h
  split at h
  · rename_i q; exact q
  · cases h
theorem nm_of {x : Str} (h : nmOk x = true) : (x == ("__debug__" : Str)) = false ∧ (x == ("__classdict__" : Str)) = false := by
  unfold nmOk at h
  simpa using h
/-- an evaluation that gives a value without work -/
theorem LT.here {ev : Ev → Sto → R D} {d : D} {v : V} (r : RelS g c H S) (e : E c H c H) (h : Post g c H (fun cls dx H' => W cls dx σ H') Q (.ok d S)) (hv : RepT g c H d v) (hd : ∀ xs, d ≠ .new xs) : Q v H :=
  h v H c (Got.of e hv r hd)
theorem s_var (C : Cok G g n cm su X W) {i : Nat} {x : Str} {p : Pos} (hN : X.N[i]? = some x) (hv : visB X.env.scope x = true) (hm : nmOk x = true) :
    PE X (.Name x p) (LT g su W (evE G (Tk.call G n) (.var i))) := by
  refine PE.imp (pe_var (i := i) hN (vis_of hv) (nm_of hm).1 (nm_of hm).2) fun σ H Q h => ?_
  obtain ⟨c, S, ρ, o, hsu, r, re, h⟩ := h
  rw [evE] at h
  cases q : ρ[i]? with
  | none => rw [q] at h; exact h.elim
  | some s =>
    rw [q] at h
    cases s with
    | emp => exact h.elim
    | val d =>
      obtain ⟨v, h1, h2⟩ := re.val i d q
      have hT : RepT g c H d v := by
        cases d <;> first | exact h2 | (rw [Rep] at h2; exact h2.elim)
      refine ⟨v, h1, h v H c (Got.of (E.refl c H) hT r fun xs z => ?_)⟩
      subst z
      rw [Rep] at h2; exact h2
    | own xs =>
      obtain ⟨a, vs, h1, h2, h3, h4⟩ := re.own i xs q
      exact ⟨.ref a, h1, h _ H c (Got.of (E.refl c H) ⟨a, vs, rfl, h3, (r.x a (re.sub i a h2)).1, h4⟩ r fun xs z => by cases z)⟩
    | exc k fs =>
      obtain ⟨a, h1, h2⟩ := re.exc i k fs q
      exact ⟨.ref a, h1, h _ H c (Got.of (E.refl c H) ⟨a, rfl, h2⟩ r fun xs z => by cases z)⟩
theorem s_const (d : D) (v : V) {e : Expr} {ce : CE} (hd : ∀ xs, d ≠ .new xs) (hr : ∀ g c H, RepT g c H d v) (he : ∀ ρ S, evE G (Tk.call G n) ce ρ S = .ok d S) (hp : PE X e (tC v)) :
    PE X e (LT g su W (evE G (Tk.call G n) ce)) := by
  refine PE.imp hp fun σ H Q h => ?_
  obtain ⟨c, S, ρ, o, hsu, r, re, h⟩ := h
  rw [he] at h
  exact h v H c (Got.of (E.refl c H) (hr g c H) r hd)
theorem s_dic0 {p : Pos} : PE X (.Dict [] [] p) (LT g su W (evE G (Tk.call G n) .dic0)) := by
  refine PE.imp pe_dnewK fun σ H Q h => ?_
  obtain ⟨c, S, ρ, o, hsu, r, re, h⟩ := h
  rw [evE] at h
  intro p hp
  have e := E.upd (c := c) (ob := .dK []) r.there hp
  refine h _ _ c (Got.of e ?_ (r.upd hp) fun xs z => by cases z)
  show Rep g c _ .dic0 _
  rw [Rep]
  exact ⟨p, rfl, upd_same, fun z => r.there p z hp, fun z => (r.x p z).2 hp⟩
end
end Tk
/-! Core 40: == of tuples whose items are compared by the text, whatever it says. -/
namespace GQ2
open PySem PySem.Spec PyProof.Rows PySem.SeqAt GQ
section
variable {prog : Program} {w : World} {A : Around} {R : Result → Shared → Prop}
/-- item by item: as long as they are equal I goes on, at the first unlike ones J holds -/
theorem tuple_eqN (l b : Addr) (items items2 : Array Value) (n n2 : Nat) (dd dd2 : Option Addr) (sl sl2 : Array (Option Value)) (hsz : items.size = items2.size) (I : Nat → Shared → Prop) (J : Shared → Prop)
    (turn : ∀ i (h1 : i < items.size) (h2 : i < items2.size) s, I i s → wpAny (model prog w) A.in1 (eqBool items[i] items2[i]) (fun r s' => (r = true ∧ I (i + 1) s') ∨ (r = false ∧ J s')) (fun e s' => R (.error e) s') s)
    (fin : ∀ s, I items.size s → R (.ok (.ret (.bool true))) s) (out : ∀ s, J s → R (.ok (.ret (.bool false))) s) {s : Shared}
    (hl1 : s.heap.get? l = some { cls := .type "tuple", dict := dd, data := .seq items n, slots := sl }) (hb1 : s.heap.get? b = some { cls := .type "tuple", dict := dd2, data := .seq items2 n2, slots := sl2 }) (h : I 0 s) :
    wpAny (model prog w) A.in1 (Builtin.«tuple.__eq__» ⟨[.ref l, .ref b], []⟩) (FinOf prog w A R) (fun e s' => R (.error e) s') s := by
  have isTup := AutoSeq1.sub_tuple_tuple
  have len : (items.toList.zip items2.toList).length = items.size := by simp [hsz]
  have start := h
  obtain ⟨hp, g, d, tk, os⟩ := s
  wp_walk using wpAny_loadPart' hl1, wpAny_loadPart' hb1, wpAny_forIn_list _ (fun rest b s' => b.1 = none ∧ ∃ i, rest = (items.toList.zip items2.toList).drop i ∧ i ≤ items.size ∧ I i s') _
  case turn =>
    rintro ⟨y, x⟩ rest b s' ⟨hb', i, hz, hi, hI⟩
    have lt : i < (items.toList.zip items2.toList).length := by
      apply Nat.lt_of_not_le
      intro hge
      rw [List.drop_of_length_le hge] at hz
      cases hz
    have h1 : i < items.size := len ▸ lt
    have h2 : i < items2.size := hsz ▸ h1
    rw [List.drop_eq_getElem_cons lt] at hz
    injection hz with hp hrest
    obtain ⟨rfl, rfl⟩ : y = items[i] ∧ x = items2[i] := by
      constructor
      · simpa using congrArg Prod.fst hp
      · simpa using congrArg Prod.snd hp
    apply wpAny_bind
    apply wpAny_mono (turn i h1 h2 s' hI) _ fun _ _ x => x
    intro r s2 q
    rcases q with ⟨rfl, q⟩ | ⟨rfl, q⟩
    · wp_walk
      exact ⟨rfl, i + 1, hrest, h1, q⟩
    · have hR := out s2 q
      wp_walk
      exact hR
  case fin =>
    rintro ⟨b1, b2⟩ s' ⟨hb', i, hz, hi, hI⟩
    simp only at hb'
    subst hb'
    have e : i = items.size := by
      rcases Nat.lt_or_ge i (items.toList.zip items2.toList).length with k | k
      · rw [List.drop_eq_getElem_cons k] at hz; cases hz
      · omega
    subst e
    have hR := fin s' hI
    wp_walk
    simpa [Builtin.Tuple.tupleCompareSizes, hsz] using hR
  case h =>
    exact ⟨rfl, 0, rfl, Nat.zero_le _, start⟩
end
section
variable {prog : Program} {w : World} {A : Around} {E : Value → Shared → Prop} {s : Shared}
theorem rc_tupN {l b : Addr} {items items2 : Array Value} {Q : Value → Shared → Prop} (hsz : items.size = items2.size) (hu : A.units < cLine) (I : Nat → Shared → Prop) (J : Shared → Prop) (hl : s.heap.IsTuple l items) (hb : s.heap.IsTuple b items2)
    (turn : ∀ i (h1 : i < items.size) (h2 : i < items2.size) s, I i s → wpAny (model prog w) A.in1 (eqBool items[i] items2[i]) (fun r s' => (r = true ∧ I (i + 1) s') ∨ (r = false ∧ J s')) E s)
    (fin : ∀ s, I items.size s → Q (.bool true) s) (out : ∀ s, J s → Q (.bool false) s) (h : I 0 s) : wpAny (model prog w) A (richCompare .Eq (.ref l) (.ref b)) Q E s := by
  obtain ⟨⟨c1, d1, t1, sl1⟩, o1, e1, n1, f1⟩ := id hl
  obtain ⟨⟨c2, d2, t2, sl2⟩, o2, e2, n2, f2⟩ := id hb
  dsimp only at e1 e2 f1 f2
  subst e1 e2 f1 f2
  have body := tuple_eqN (prog := prog) (w := w) (A := A) (R := wants (fun v s' => v ≠ .notImplemented ∧ Q v s') E) l b items items2 n1 n2 d1 d2 sl1 sl2 hsz I J turn
    (fun s' q => ⟨(fun z => nomatch z), fin s' q⟩) (fun s' q => ⟨(fun z => nomatch z), out s' q⟩) o1 o2 h
  exact wpAny_richCompare_same_room (op := .Eq) ⟨_, o1, rfl⟩ ⟨_, o2, rfl⟩ F.slot_tuple_eq (call_here F.slot_tuple_eq ⟨_, o1, rfl⟩ F.entry_tuple_eq (F.args_tuple_eq_2 _ _) body) hu
end
end GQ2
namespace Tk
open PySem PySem.Spec PyProof.Rows L2
/-- how two values are compared: the answer is told -/
abbrev Eqr := V → V → Bool → Hp → Prop
def MonR (D : Eqr) : Prop := ∀ x y b H H', L2.Ext H H' → D x y b H → D x y b H'
/-- nothing is unlike itself -/
def IrrI (X : Cx) (D : Eqr) : Prop := ∀ (pins : List (Addr × Obj)) (s : Shared) (σ : L2.St) (H : Hp) (x : V), Inv X pins σ H s → D x x false H → False
def EqR (X : Cx) (n : Nat) (D : Eqr) : Prop :=
  ∀ (A : Around) (pins : List (Addr × Obj)) (s : Shared) (σ : L2.St) (H : Hp) (x y : V) (b : Bool) (u v : Value), L2.Sub X n A → Inv X pins σ H s → RelV x u → RelV y v → D x y b H →
    wpAny (model X.prog X.w) A (eqBool u v) (fun r s' => r = b ∧ ∃ H', Inv X pins σ H' s' ∧ L2.Ext H H') X.xe s
def RcR (X : Cx) (n : Nat) (D : Eqr) : Prop :=
  ∀ (A : Around) (pins : List (Addr × Obj)) (s : Shared) (σ : L2.St) (H : Hp) (x y : V) (b : Bool) (u v : Value), L2.Sub X n A → Inv X pins σ H s → RelV x u → RelV y v → D x y b H →
    wpAny (model X.prog X.w) A (richCompare .Eq u v) (fun r s' => r = .bool b ∧ ∃ H', Inv X pins σ H' s' ∧ L2.Ext H H') X.xe s
inductive PrsR (D : Eqr) (H : Hp) : List V → List V → Bool → Prop
  | nil : PrsR D H [] [] true
  | yes {x y : V} {xs ys : List V} {b : Bool} (h : D x y true H) (r : PrsR D H xs ys b) : PrsR D H (x :: xs) (y :: ys) b
  | no {x y : V} {xs ys : List V} (h : D x y false H) (r : xs.length = ys.length) : PrsR D H (x :: xs) (y :: ys) false
section
variable {X : Cx} {n m : Nat} {D D' : Eqr} {H H' : Hp} {xs ys : List V} {b : Bool}
theorem PrsR.len (p : PrsR D H xs ys b) : xs.length = ys.length := by
  induction p with
  | nil => rfl
  | yes _ _ ih => rw [List.length_cons, List.length_cons, ih]
  | no _ r => rw [List.length_cons, List.length_cons, r]
theorem PrsR.mon (hD : MonR D) (e : L2.Ext H H') (p : PrsR D H xs ys b) : PrsR D H' xs ys b := by
  induction p with
  | nil => exact .nil
  | yes h _ ih => exact .yes (hD _ _ _ _ _ e h) ih
  | no h r => exact .no (hD _ _ _ _ _ e h) r
theorem PrsR.irr {pins : List (Addr × Obj)} {s : Shared} {σ : L2.St} (hD : IrrI X D) (I : Inv X pins σ H s) : ∀ {xs : List V}, ¬ PrsR D H xs xs false
  | [], p => nomatch p
  | x :: xs, p => by
    cases p with
    | yes _ r => exact PrsR.irr hD I r
    | no h _ => exact hD _ _ _ _ _ I h
theorem EqR.mono (h : EqR X n D) (hn : n ≤ m) : EqR X m D := fun A pins s σ H x y b u v sb => h A pins s σ H x y b u v (sb.mono hn)
theorem EqR.or (h : EqR X n D) (h' : EqR X n D') : EqR X n (fun x y b H => D x y b H ∨ D' x y b H) := fun A pins s σ H x y b u v sb I rx ry d =>
  d.elim (h A pins s σ H x y b u v sb I rx ry) (h' A pins s σ H x y b u v sb I rx ry)
def DFlatR : Eqr := fun x y b _ => flatV x = true ∧ flatV y = true ∧ eqV x y = b
theorem eqR_flat : EqR X 0 DFlatR := by
  rintro A pins s σ H x y b u v sb I rx ry ⟨f1, f2, e⟩
  have q := eqAt_V (A := A) (s := s) rx ry f1 f2
  rw [e] at q
  exact q X.prog X.w X.xe _ ⟨rfl, H, I, fun _ _ h => h⟩
def DTupR (K : PySem.W.Frag) (D : Eqr) : Eqr := fun x y b H => ∃ a c xs ys, x = .ref a ∧ y = .ref c ∧ SqT K H a xs ∧ SqT K H c ys ∧ PrsR D H xs ys b
theorem monR_tup {K : PySem.W.Frag} (hD : MonR D) : MonR (DTupR K D) := by
  rintro x y b H H' e ⟨a, c, xs, ys, h1, h2, h3, h4, p⟩
  exact ⟨a, c, xs, ys, h1, h2, h3.ext e, h4.ext e, p.mon hD e⟩
theorem rcR_tup (hD : MonR D) (h : EqR X n D) : RcR X (n + 1) (DTupR X.K D) := by
  rintro A pins s σ H x y b u v sb I rx ry ⟨a, c, xs, ys, rfl, rfl, ha, hc, p⟩
  cases rx
  cases ry
  obtain ⟨its, r, e, z⟩ := I.tuple ha
  obtain ⟨its2, r2, e2, z2⟩ := I.tuple hc
  have l1 := r.length
  have l2 := r2.length
  have hsz : its.toArray.size = its2.toArray.size := by rw [List.size_toArray, List.size_toArray, ← l1, ← l2]; exact p.len
  refine GQ2.rc_tupN hsz sb.room.units0 (fun i s' => i ≤ xs.length ∧ PrsR D H (xs.drop i) (ys.drop i) b ∧ ∃ H', Inv X pins σ H' s' ∧ L2.Ext H H') (fun s' => b = false ∧ ∃ H', Inv X pins σ H' s' ∧ L2.Ext H H') e e2 (fun i h1 h2 s' q => ?_) (fun s' q => ?_) (fun s' q => ?_) ⟨Nat.zero_le _, p, H, I, fun _ _ h => h⟩
  · obtain ⟨_, p', H1, I1, e1⟩ := q
    have k1 : i < xs.length := by rw [l1]; simpa using h1
    have k2 : i < ys.length := by rw [l2]; simpa using h2
    rw [List.drop_eq_getElem_cons k1, List.drop_eq_getElem_cons k2] at p'
    obtain ⟨u1, hu, ru⟩ := r.get (List.getElem?_eq_getElem k1)
    obtain ⟨v1, hv, rv⟩ := r2.get (List.getElem?_eq_getElem k2)
    have g1 : its.toArray[i] = u1 := by
      have : its[i]? = some its.toArray[i] := by
        rw [List.getElem?_eq_getElem (by simpa using h1)] <;> simp
      rw [hu] at this; exact (Option.some.inj this).symm
    have g2 : its2.toArray[i] = v1 := by
      have : its2[i]? = some its2.toArray[i] := by
        rw [List.getElem?_eq_getElem (by simpa using h2)] <;> simp
      rw [hv] at this; exact (Option.some.inj this).symm
    rw [g1, g2]
    cases p' with
    | yes hd rest =>
      refine wpAny_mono (h A.in1 pins s' σ H1 _ _ true u1 v1 sb.in1 I1 ru rv (hD _ _ _ _ _ e1 hd)) (fun t s2 q => ?_) fun _ _ x => x
      obtain ⟨ht, H2, I2, e2'⟩ := q
      exact .inl ⟨ht, k1, rest, H2, I2, e1.trans e2'⟩
    | no hd rest =>
      refine wpAny_mono (h A.in1 pins s' σ H1 _ _ false u1 v1 sb.in1 I1 ru rv (hD _ _ _ _ _ e1 hd)) (fun t s2 q => ?_) fun _ _ x => x
      obtain ⟨ht, H2, I2, e2'⟩ := q
      exact .inr ⟨ht, rfl, H2, I2, e1.trans e2'⟩
  · obtain ⟨_, p', w⟩ := q
    rw [List.size_toArray, ← l1, List.drop_length] at p'
    rw [p.len, List.drop_length] at p'
    cases p'
    exact ⟨rfl, w⟩
  · obtain ⟨rfl, w⟩ := q
    exact ⟨rfl, w⟩
theorem RcR.eqR (h : RcR X n D) (hi : IrrI X D) (hr : ∀ x y b H, D x y b H → ∃ a c, x = .ref a ∧ y = .ref c) : EqR X n D := by
  intro A pins s σ H x y b u v sb I rx ry d
  obtain ⟨a, c, rfl, rfl⟩ := hr _ _ _ _ d
  cases rx
  cases ry
  by_cases hac : a = c
  · subst hac
    have hb : b = true := by cases b with
      | true => rfl
      | false => exact (hi _ _ _ _ _ I d).elim
    subst hb
    exact SeqAt.EqAt.same (A := A) (s := s) (.ref a) X.prog X.w X.xe _ ⟨rfl, H, I, fun _ _ h => h⟩
  · refine GQ.eqBool_refG hac (wpAny_mono (h A pins s σ H (.ref a) (.ref c) b _ _ sb I rfl rfl d) (fun r s' q => ?_) fun _ _ x => x)
    exact ⟨b, q.1, rfl, q.2⟩
/-- instances of a class with the text's own == -/
def DInsR (C : Addr) (R : Addr → Addr → Bool → Hp → Prop) : Eqr := fun x y b H => ∃ a c dx dy fs gs, x = .ref a ∧ y = .ref c ∧ H a = some (.ins C dx fs) ∧ H c = some (.ins C dy gs) ∧ R a c b H ∧ (a = c → b = true)
def spEqR (R : Addr → Addr → Bool → Hp → Prop) : Sp := fun vs H Q _ => ∃ a c b, vs = [.ref a, .ref c] ∧ R a c b H ∧ ∀ H', L2.Ext H H' → Q (.bl b) H'
theorem rcR_ins {CX : CXT} {C f : Addr} {fd : FuncData} {ps : List Str} {R : Addr → Addr → Bool → Hp → Prop} {E : XK} (F : FnOk X.prog X.w X.K X.mg X.base CX n f fd ps (spEqR R))
    (hs : PySem.W.findIn X.K (.ref C) "__eq__" = some (some (.ref f))) (hf : PySem.W.isFn X.K (.ref f) = true) (hb : Binds X.K fd ps []) (hx : Passes CX X E) : RcR X n (DInsR C R) := by
  rintro A pins s σ H x y b u v sb I rx ry ⟨a, c, dx, dy, fs, gs, rfl, rfl, ha, hc, hr, _⟩
  cases rx; cases ry
  have l1 := (ins_get I.hok ha).choose_spec.1
  have l2 := (ins_get I.hok hc).choose_spec.1
  have k1 := l1.look.choose_spec.1
  have k2 := l2.look.choose_spec.1
  have wish : spEqR R [.ref a, .ref c] H (fun v H' => v = .bl b ∧ L2.Ext H H') E := ⟨a, c, b, rfl, hr, fun H' e => ⟨rfl, e⟩⟩
  have en := I.env0
  have en' : Env0 X.prog X.w X.K X.mg X.base A X.stack s H :=
    { en with frames := by rw [sb.fr]; exact en.frames }
  have arity := F.len _ _ _ _ wish
  have bound := hb s [.ref a, .ref c] I.kIn (by simpa using arity)
  have run := F.run A X.stack s H ⟨[.ref a, .ref c], []⟩ [.ref a, .ref c]
    [.ref a, .ref c] _ E sb.room en' (by simpa using bound)
    (.cons rfl (.cons rfl .nil)) wish
  have call : wpAny (model X.prog X.w) A (PySem.call (.ref f) [.ref a, .ref c])
      (PySem.W.CmpBack fun r s' => r = .bool b ∧ ∃ H', Inv X pins σ H' s' ∧ L2.Ext H H') X.xe s := by
    apply wpAny_call
    apply codeAny_mono run
    intro r s' q
    match r, q with
    | .error e, q => exact hx pins σ H s e s' I q
    | .ok (.ret w), q =>
      obtain ⟨z, H', I', rz, ez, ex⟩ := I.after q
      subst ez
      cases rz
      exact ⟨rfl, H', I', ex⟩
  obtain ⟨m, fr⟩ := I.fr
  exact PySem.W.cmp_K (op := .Eq) (tb := .ref C) sb.room.units0 fr I.ok.mod.kin k1 k2.type
    (by simp [PySem.W.notFirst]) hs hf call
theorem eqR_ins {CX : CXT} {C f : Addr} {fd : FuncData} {ps : List Str} {R : Addr → Addr → Bool → Hp → Prop} {E : XK} (F : FnOk X.prog X.w X.K X.mg X.base CX n f fd ps (spEqR R))
    (hs : PySem.W.findIn X.K (.ref C) "__eq__" = some (some (.ref f))) (hf : PySem.W.isFn X.K (.ref f) = true) (hb : Binds X.K fd ps []) (hx : Passes CX X E) : EqR X n (DInsR C R) :=
  (rcR_ins F hs hf hb hx).eqR (fun _ _ _ H x _ d => by
    obtain ⟨a, c, _, _, _, _, h1, h2, _, _, _, h⟩ := d
    rw [h1] at h2
    cases h2
    cases h rfl) fun _ _ _ _ d => let ⟨a, c, _, _, _, _, h1, h2, _⟩ := d; ⟨a, c, h1, h2⟩
end
end Tk
/-! Core 9: operators as the small language has them. -/
namespace Tk
open PySem PySem.Spec PyProof.Rows L2

/-- an operation on values, its wish knowing the slots -/
def OpRs (X : Cx) (f : Value → Value → Sem Value) (r : L2.St → R2) : Prop :=
  ∀ (pins : List (Addr × Obj)) (s : Shared) (σ : L2.St) (H : Hp) (x y : V) (v u : Value) (Q : VK), Inv X pins σ H s → RelV x v → RelV y u → r σ x y H Q →
    wpAny (model X.prog X.w) X.A (f v u) (EP X pins σ Q) X.xe s
def tOpS (r : L2.St → R2) (ta tb : TE) : TE := fun σ H Q => ta σ H fun x H1 => tb σ H1 fun y H2 => r σ x y H2 Q
def rSem (g : Wd) (su : Su) (W : WX) (k : D → D → Sto → R D) : L2.St → R2 := fun σ x y H Q =>
  ∃ c S d e, c.su = su ∧ RelS g c H S ∧ RepT g c H d x ∧ RepT g c H e y ∧ Post g c H (fun cls dx H' => W cls dx σ H') Q (k d e S)
section
variable {X : Cx} {a b e' : Expr} {ta tb tc : TE} {pos : Pos} {r r' : L2.St → R2}
theorem pe_opS {op : Operator} (ho : OpRs X (binaryOp op) r) (ha : PE X a ta) (hb : PE X b tb) : PE X (.BinOp a op b pos) (tOpS r ta tb) := by
  refine ⟨fun pins s σ H Q I h => ?_⟩
  exact wpAny_BinOp (binT ha hb I h fun v u s2 x y H2 I2 rx ry q => ho pins s2 σ H2 x y v u Q I2 rx ry q)
theorem pe_cmpS {op : CmpOp} (ho : OpRs X (compareOp op) r) (ha : PE X a ta) (hb : PE X b tb) (hm : behindInMarks op b = false) : PE X (.Compare a [op] [b] pos) (tOpS r ta tb) := by
  refine ⟨fun pins s σ H Q I h => ?_⟩
  exact wpAny_Compare1 (binT ha hb I h fun v u s2 x y H2 I2 rx ry q => ho pins s2 σ H2 x y v u Q I2 rx ry q) hm
theorem pt_cmpS {op : CmpOp} (ho : OpRs X (compareOp op) r) (ha : PE X a ta) (hb : PE X b tb) (hm : behindInMarks op b = false) : PT X (.Compare a [op] [b] pos) (tTest (tOpS r ta tb)) := by
  refine ⟨fun pins s σ H Q I h => ?_⟩
  refine wpAny_isTrue_Compare1 (thn (ha.run pins s σ H _ I h) fun v s1 ⟨x, H1, I1, r1, q1⟩ => thn (hb.run pins s1 σ H1 _ I1 q1) fun u s2 ⟨y, H2, I2, r2, q2⟩ =>
    thn (ho pins s2 σ H2 x y v u _ I2 r1 r2 q2) fun c s3 ⟨z, H3, I3, r3, k, e, q3⟩ => ?_) hm
  subst e
  cases r3
  exact wpAny_truthy_bool ⟨H3, I3, q3⟩
def tChainS (r r' : L2.St → R2) (ta tb tc : TE) : TE := fun σ H Q => ta σ H fun x H1 => tb σ H1 fun y H2 => r σ x y H2 fun z H3 => ∃ k, z = .bl k ∧
  (if k = true then tc σ H3 fun w' H4 => r' σ y w' H4 Q else Q (.bl false) H3)
theorem pe_chainS {op op' : CmpOp} (ho : OpRs X (compareOp op) r) (ho' : OpRs X (compareOp op') r') (ha : PE X a ta) (hb : PE X b tb) (hc : PE X e' tc)
    (hm : lastMarks [op, op'] [b, e'] = false) : PE X (.Compare a [op, op'] [b, e'] pos) (tChainS r r' ta tb tc) := by
  refine ⟨fun pins s σ H Q I h => ?_⟩
  refine Compare_chain (thn (ha.run pins s σ H _ I h) fun v s1 ⟨x, H1, I1, r1, q1⟩ => chain_link (thn (hb.run pins s1 σ H1 _ I1 q1) fun u s2 ⟨y, H2, I2, r2, q2⟩ =>
    thn (ho pins s2 σ H2 x y v u _ I2 r1 r2 q2) fun d s3 ⟨z, H3, I3, r3, k, e, q3⟩ => ?_)) hm
  subst e
  cases r3
  refine wpAny_truthy_bool ?_
  cases k with
  | false => exact ite_ff ⟨.bl false, H3, I3, rfl, q3⟩
  | true => exact ite_tt (chain_last (thn (hc.run pins s3 σ H3 _ I3 q3) fun w' s4 ⟨z', H4, I4, r4, q4⟩ => ho' pins s4 σ H4 y z' u w' Q I4 r2 r4 q4))
theorem pt_chainS {op op' : CmpOp} (ho : OpRs X (compareOp op) r) (ho' : OpRs X (compareOp op') r') (ha : PE X a ta) (hb : PE X b tb) (hc : PE X e' tc)
    (hm : lastMarks [op, op'] [b, e'] = false) : PT X (.Compare a [op, op'] [b, e'] pos) (tTest (tChainS r r' ta tb tc)) := by
  refine ⟨fun pins s σ H Q I h => ?_⟩
  refine isTrue_chain (thn (ha.run pins s σ H _ I h) fun v s1 ⟨x, H1, I1, r1, q1⟩ => test_link (thn (hb.run pins s1 σ H1 _ I1 q1) fun u s2 ⟨y, H2, I2, r2, q2⟩ =>
    thn (ho pins s2 σ H2 x y v u _ I2 r1 r2 q2) fun d s3 ⟨z, H3, I3, r3, k, e, q3⟩ => ?_)) hm
  subst e
  cases r3
  refine wpAny_truthy_bool ?_
  cases k with
  | false => obtain ⟨k2, e2, q4⟩ := q3; cases e2; exact ite_ff ⟨H3, I3, q4⟩
  | true =>
    refine ite_tt (test_last (thn (hc.run pins s3 σ H3 _ I3 q3) fun w' s4 ⟨z', H4, I4, r4, q4⟩ => thn (ho' pins s4 σ H4 y z' u w' _ I4 r2 r4 q4) fun d' s5 ⟨z2, H5, I5, r5, k2, e5, q5⟩ => ?_))
    subst e5
    cases r5
    exact wpAny_truthy_bool ⟨H5, I5, q5⟩
end

section
variable {G : Prog} {g : Wd} {n : Nat} {cm : Bool} {su : Su} {X : Cx} {W : WX} {c c' : Ct} {H H' : Hp} {S S' : Sto} {ρ : Ev} {o : List (Nat × Addr)} {σ : L2.St} {Q : VK} {ea eb : Ev → Sto → R D}
/-- where an evaluation begins -/
structure At (g : Wd) (su : Su) (c : Ct) (H : Hp) (S : Sto) (o : List (Nat × Addr)) (σ : L2.St) (ρ : Ev) : Prop where
  su : c.su = su
  s : RelS g c H S
  e : RelE g c H o σ ρ
theorem At.go (a : At g su c H S o σ ρ) (e : E c H c' H') (s : RelS g c' H' S') : At g su c' H' S' o σ ρ := ⟨e.su.trans a.su, s, a.e.ext e fun b hb => (a.s.x b hb).1⟩
theorem LT.mk (a : At g su c H S o σ ρ) (h : Post g c H (fun cls dx H' => W cls dx σ H') Q (ea ρ S)) : LT g su W ea σ H Q := ⟨c, S, ρ, o, a.su, a.s, a.e, h⟩
theorem LT.open (h : LT g su W ea σ H Q) : ∃ c S ρ o, At g su c H S o σ ρ ∧ Post g c H (fun cls dx H' => W cls dx σ H') Q (ea ρ S) :=
  let ⟨c, S, ρ, o, h1, h2, h3, h4⟩ := h; ⟨c, S, ρ, o, ⟨h1, h2, h3⟩, h4⟩
/-- two operands, then the operation -/
theorem LT.two {k : D → D → Sto → R D} (a : At g su c H S o σ ρ) (h : Post g c H (fun cls dx H' => W cls dx σ H') Q ((ea ρ S).bind fun x S1 => (eb ρ S1).bind (k x))) :
    tOpS (rSem g su W k) (LT g su W ea) (LT g su W eb) σ H Q := by
  refine LT.mk a (Post.bind h fun d S1 v H1 c1 _ q1 h1 => ?_)
  refine LT.mk (a.go q1.e q1.s) (Post.bind h1 fun e S2 u H2 c2 _ q2 h2 => ?_)
  exact ⟨c2, S2, d, e, q2.e.su.trans (q1.e.su.trans a.su), q2.s, q1.r.ext q2.e, q2.r, h2⟩

/-- a value comes at once -/
theorem Post.now {d : D} {v : V} (r : RelS g c H S) (hv : RepT g c H d v) (hd : ∀ xs, d ≠ .new xs) {WW : WH} (h : Post g c H WW Q (.ok d S)) : Q v H := h v H c (Got.of (E.refl c H) hv r hd)
theorem Post.bl {b : Bool} (r : RelS g c H S) {WW : WH} (h : Post g c H WW Q (.ok (.bl b) S)) : Q (.bl b) H :=
  h.now r (by show Rep g c H _ _; rw [Rep]) (by intro _ z; cases z)
theorem Post.int {i : Int} (r : RelS g c H S) {WW : WH} (h : Post g c H WW Q (.ok (.int i) S)) : Q (.int i) H :=
  h.now r (by show Rep g c H _ _; rw [Rep]) (by intro _ z; cases z)
/-- a new list, a new tuple -/
theorem Post.lst {xs : List D} {vs : List V} {p : Addr} (r : RelS g c H S) (hv : Reps g c H xs vs) (hp : H p = none) {WW : WH} (h : Post g c H WW Q (.ok (.new xs) S)) : Q (.ref p) (upd H p (.lst vs)) := by
  have cy := cy_upd (c := c) (ob := .lst vs) hp
  refine h _ _ c ⟨E.upd r.there hp, ⟨p, vs, rfl, ⟨upd_same, fun z => r.there p z hp, fun z => (r.x p z).2 hp⟩, Reps.cy cy _ _ hv⟩, r.upd hp, fun ys z => by cases z; exact ⟨p, vs, rfl, hp, r.new hp, upd_same, Reps.cy (cy_new hp) _ _ hv⟩⟩
theorem Post.tup {xs : List D} {vs : List V} {p : Addr} (r : RelS g c H S) (hv : Reps g c H xs vs) (hp : H p = none) {WW : WH} (h : Post g c H WW Q (.ok (.tup xs) S)) : Q (.ref p) (upd H p (.tup vs)) := by
  have cy := cy_upd (c := c) (ob := .tup vs) hp
  refine h _ _ c (Got.of (E.upd r.there hp) ?_ (r.upd hp) fun _ z => nomatch z)
  show Rep g c _ _ _
  rw [Rep]
  exact ⟨p, vs, rfl, .inl ⟨upd_same, fun z => r.there p z hp, fun z => (r.x p z).2 hp⟩, Reps.cy cy _ _ hv⟩
theorem int_of {i : Int} {v : V} (h : RepT g c H (.int i) v) : v = .int i := by change Rep g c H _ v at h; rw [Rep] at h; exact h
theorem bl_of {i : Bool} {v : V} (h : RepT g c H (.bl i) v) : v = .bl i := by change Rep g c H _ v at h; rw [Rep] at h; exact h
theorem non_of {v : V} (h : RepT g c H .non v) : v = .non := by change Rep g c H _ v at h; rw [Rep] at h; exact h

theorem lim_line {n : Nat} (h : n ≤ LIM) : n ≤ sizeLine := Nat.le_trans h (by decide)
/-- an instance's class, its attributes -/
theorem obj_of {k : Nat} {fs : List D} {v : V} (h : RepT g c H (.obj k fs) v) : ∃ a dx vs, v = .ref a ∧ Fx c H a (.ins (g.ca k) dx ((g.cf k).zip vs)) ∧ vs.length = (g.cf k).length ∧ Reps g c H fs vs := by
  change Rep g c H _ v at h; rw [Rep] at h; exact h
/-- the type of a value -/
theorem tyx_of (C : Cok G g n cm su X W) {d : D} {v : V} (r : RelS g c H S) (h : RepT g c H d v) (hn : noExn d = true) (hk : ∀ k fs, d = .obj k fs → G.cls? k = true) (hl : ∀ k, d = .loc k → ∃ xs, S[k]? = some (.lst xs)) : TyX X.K H v (tyV g d) := by
  cases d with
  | non => rw [non_of h]; exact .base .non
  | bl b => rw [bl_of h]; exact .base (.bl b)
  | int i => rw [int_of h]; exact .base (.int i)
  | str s => change Rep g c H _ v at h; rw [Rep] at h; rw [h]; exact .base (.str s)
  | tup xs =>
    change Rep g c H _ v at h; rw [Rep] at h
    obtain ⟨a, vs, h1, h2, h3⟩ := h
    subst h1
    rcases h2 with h2 | ⟨ob, its, m, q1, q2, _⟩
    · exact .base (.tup h2.1)
    · rw [C.K] at q1; exact .kTuple q1 q2
  | lst xs =>
    obtain ⟨a, vs, h1, h2, h3⟩ := rep_ref h
    subst h1
    exact .base (.lst h2.1)
  | new xs =>
    obtain ⟨a, vs, h1, h2, h3⟩ := h
    subst h1
    exact .base (.lst h2.1)
  | own i xs =>
    obtain ⟨a, vs, h1, h2, h3⟩ := h
    subst h1
    exact .base (.lst h2)
  | scr xs =>
    change Rep g c H _ v at h; rw [Rep] at h
    obtain ⟨a, vs, h1, h2, h3⟩ := h
    subst h1
    rcases h2 with ⟨q | ⟨ob, q⟩, _⟩ | ⟨ob, its, m, q1, q2, _⟩
    · exact .base (.lst q)
    · exact .base (.frz q)
    · rw [C.K] at q1; exact .kList q1 q2
  | dic0 =>
    change Rep g c H _ v at h; rw [Rep] at h
    obtain ⟨a, h1, h2⟩ := h
    subst h1
    exact .base (.dK h2.1)
  | obj k fs =>
    obtain ⟨a, dx, vs, h1, h2, _⟩ := obj_of h
    subst h1
    have q := C.st.tyo k (hk k fs rfl)
    have q2 := C.st.cls k (hk k fs rfl)
    rw [C.K] at q q2
    exact .base (.ins h2.1 q2 q.1 q.2.1 q.2.2.1 q.2.2.2)
  | loc k =>
    change Rep g c H _ v at h; rw [Rep] at h
    obtain ⟨a, h1, h2⟩ := h
    subst h1
    obtain ⟨xs, hx⟩ := hl k rfl
    obtain ⟨vs, h5, h6⟩ := (show CellOk g c H a (.lst xs) from r.ok k _ a hx h2)
    exact .base (.lst h5)
  | exn k fs => cases hn

/-- a def of the text called, the state at hand -/
theorem own_call (C : Cok G g n true su X W) {f : Nat} {d : DefT} (hd : G.defs[f]? = some d) {a : Addr} {fd : FuncData} {ps : List Str} (F : FnOk X.prog X.w g.K X.mg X.base (L2.CX X.prog X.w) (lv n) a fd ps (SpF g (Tk.call G n) d.np f))
    (hb : L2.Binds g.K fd ps []) (hp : ps.length = d.np) {pins : List (Addr × Obj)} {s : Shared} {vs : List V} {us : List Value} {ds : List D} (I : Inv X pins σ H s) (rv : Vals vs us) (hsu : c.su = su) (r : RelS g c H S) (hr : Reps g c H ds vs)
    (h : Post g c H (fun cls dx H' => W cls dx σ H') Q (Tk.call G n f ds S)) : wpAny (model X.prog X.w) X.A (PySem.call (.ref a) us) (EP X pins σ Q) X.xe s := by
  obtain ⟨h1, h2, h3⟩ := C.cm rfl
  have K := C.K
  rw [K] at F hb
  have hl : vs.length = d.np := by
    rw [hr.length]
    cases n with
    | zero => exact h.elim
    | succ m =>
      have e : Tk.call G (m + 1) f ds S = callD G (Tk.call G m) ds S (some d) := by rw [← hd]; rfl
      rw [e] at h
      by_cases q : ds.length = d.np
      · exact q
      · have z : callD G (Tk.call G m) ds S (some d) = .bad := by unfold callD; simp only [q, if_false]
        rw [z] at h; exact h.elim
  exact run_fnS (E := WE W) F (h2.mono (Nat.le_add_right _ _)) hb (passAt C.tk σ) I rv ⟨hl, c, S, ds, hsu.trans h3, r, hr, h⟩

theorem int_add_inst {M : Model} {A : Around} {E : Value → Shared → Prop} {Q : PySem.Fin → Shared → Prop} {s : Shared} {b : Addr} {ob : Obj} (a : Int) (t : Tok) (he : s.heap.get? b = some ob) (hd : ∀ i t, ob.data ≠ .prim (.int i t)) (h : Q (.done (.ret .notImplemented)) s) :
    wpAny M A (Builtin.«int.__add__» ⟨[.int a t, .ref b], []⟩) Q E s := by
  obtain ⟨hp, g, d, tk, os⟩ := s
  wp_walk using wpAny_load he
  split
  · rename_i q; exact absurd q (hd _ _)
  · wp_walk
    exact h
theorem int_sub_inst {M : Model} {A : Around} {E : Value → Shared → Prop} {Q : PySem.Fin → Shared → Prop} {s : Shared} {b : Addr} {ob : Obj} (a : Int) (t : Tok) (he : s.heap.get? b = some ob) (hd : ∀ i t, ob.data ≠ .prim (.int i t)) (h : Q (.done (.ret .notImplemented)) s) :
    wpAny M A (Builtin.«int.__sub__» ⟨[.int a t, .ref b], []⟩) Q E s := by
  obtain ⟨hp, g, d, tk, os⟩ := s
  wp_walk using wpAny_load he
  split
  · rename_i q; exact absurd q (hd _ _)
  · wp_walk
    exact h
theorem int_mul_inst {M : Model} {A : Around} {E : Value → Shared → Prop} {Q : PySem.Fin → Shared → Prop} {s : Shared} {b : Addr} {ob : Obj} (a : Int) (t : Tok) (he : s.heap.get? b = some ob) (hd : ∀ i t, ob.data ≠ .prim (.int i t)) (h : Q (.done (.ret .notImplemented)) s) :
    wpAny M A (Builtin.«int.__mul__» ⟨[.int a t, .ref b], []⟩) Q E s := by
  obtain ⟨hp, g, d, tk, os⟩ := s
  wp_walk using wpAny_load he
  split
  · rename_i q; exact absurd q (hd _ _)
  · wp_walk
    exact h
theorem bin_right {prog : Program} {w : World} {A : Around} {E : Value → Shared → Prop} {s : Shared} {K : PySem.W.Frag} {x C f r : Addr} {ox : Obj} {od : Option Obj} {op : Operator} {i : Int} {t : Tok} {Q : Value → Shared → Prop} {idl : String}
    (X : K.In s.heap) (I : PySem.W.InstAt s.heap x ox C od) (hc : PySem.W.selfFirst K C = true) (hs : PySem.W.findIn K (.ref C) (PySem.dunder op.info.2) = some (some (.ref f))) (hsub : PySem.W.subIn K (.ref C) (.type "int") = some false)
    (hfill : fillsNumberSlot (.type "int") op.info.2 = pure true) (hsl : PySem.Slot "int" (PySem.dunder op.info.2) idl) (hdec : wpAny (model prog w) A (PySem.call (.builtin idl) [.int i t, .ref x]) (fun v s' => v = .notImplemented ∧ s' = s) E s)
    (hm : PySem.W.findIn K (.ref C) (PySem.dunderR op.info.2) = some (some (.ref r))) (hf : PySem.W.isFn K (.ref r) = true)
    (h : wpAny (model prog w) A (PySem.call (.ref r) [.ref x, .int i t]) (PySem.W.CmpBack Q) E s) : wpAny (model prog w) A (binaryOp op (.int i t) (.ref x)) Q E s := by
  obtain ⟨cd, rest, hcd, hmro⟩ := PySem.W.ksp_first hc
  rcases hi : op.info with ⟨sym, nm'⟩
  rw [hi] at hs hfill hsl hm
  dsimp only at hs hfill hsl hm
  have one := PySem.W.ksp_try X I hm hf h
  have two : wpAny (model prog w) A (tryMethod (.int i t) (PySem.dunder nm') (.ref x)) (fun r s' => r = none ∧ s' = s) E s := wpAny_tryMethod_declines (typeIs_int s i t) hsl (wpAny_mono hdec (fun v s' q => ⟨q.1, rfl, q.2⟩) fun _ _ z => z)
  have L4 : PySem.W.Looks (model prog w) s.heap (fillsNumberSlot (.ref C) nm') true := PySem.W.fills_K X hcd hmro hs
  have L5 : PySem.W.Looks (model prog w) s.heap (isSubtype (.ref C) (.type "int")) false := PySem.W.looks_subIn X hsub
  have hne : (Value.type "int" == Value.ref C) = false := by simp
  simp only [binaryOp, hi]
  refine wpAny_holding (wpAny_bind ?_)
  unfold binaryOp1
  refine wpAny_bind (wpAny_typeOf (typeIs_int s i t) (wpAny_bind (I.type.here (wpAny_bind (wpAny_of_eq hfill ?_)))))
  simp only [hne, Bool.false_eq_true, if_false]
  refine wpAny_bind (L4.here ?_)
  simp only [Bool.and_self, if_true]
  refine wpAny_bind (L5.here ?_)
  simp only [Bool.false_eq_true, if_false, Bool.not_false, if_true]
  simp only [Bool.and_self, if_true]
  refine wpAny_bind (wpAny_of_eq (show numberSlotInPython (.type "int") nm' = pure false from rfl) ?_)
  simp only [Bool.false_eq_true, if_false]
  refine wpAny_bind (m := tryMethod (.int i t) _ (.ref x)) (wpAny_mono two (fun r s1 z => ?_) fun _ _ e => e)
  obtain ⟨z1, z2⟩ := z
  subst z1
  subst z2
  refine wpAny_bind (m := tryMethod (.ref x) _ (.int i t)) (wpAny_mono one (fun r s2 z => ?_) fun _ _ e => e)
  obtain ⟨v, z1, z2⟩ := z
  subst z1
  exact wpAny_bind (wpAny_rule (wpAny_pure (wpAny_pure z2)))

theorem cmpBack_of {pins : List (Addr × Obj)} {σ : L2.St} {Q Q' : VK} {w : Value} {s : Shared} (h : EP X pins σ Q' w s) (hq : ∀ v H', Q' v H' → Q v H') : PySem.W.CmpBack (EP X pins σ Q) w s := by
  obtain ⟨v, H', I, r, q⟩ := h
  cases w with
  | notImplemented => cases v <;> first | (cases r; done) | (obtain ⟨_, z⟩ := r; cases z)
  | _ => exact ⟨v, H', I, r, hq _ _ q⟩
theorem opOf_some {G : Prog} {op : Bi} {d : D} {p : Nat × Nat} (h : G.opOf op d = some p) : ∃ k fs cc, d = .obj k fs ∧ G.clss[k]? = some cc ∧ (op, p) ∈ cc.ops := by
  unfold Prog.opOf at h
  split at h
  · rename_i k fs
    split at h
    · rename_i cc hc
      split at h
      · rename_i q hq
        have h1 := List.mem_of_find?_eq_some hq
        have h2 := List.find?_some hq
        have e1 : q.1 = op := by simpa using h2
        have e2 : q.2 = p := Option.some.inj h
        refine ⟨k, fs, cc, rfl, hc, ?_⟩
        rw [← e1, ← e2]
        exact h1
      · cases h
    · cases h
  · cases h
/-- an own operator, asked at the left -/
theorem bin_own (C : Cok G g n true su X W) (op : Bi) {k : Nat} {fs : List D} {e : D} {x y : V} {v u : Value} {pins : List (Addr × Obj)} {s : Shared} (I : Inv X pins σ H s) (rx : RelV x v) (ry : RelV y u) (hsu : c.su = su) (r : RelS g c H S) (hx : RepT g c H (.obj k fs) x) (hy : RepT g c H e y)
    (h : Post g c H (fun cls dx H' => W cls dx σ H') Q (binL (Tk.call G n) k fs e S (G.opOf op (.obj k fs)))) : wpAny (model X.prog X.w) X.A (binaryOp (toOp op) v u) (EP X pins σ Q) X.xe s := by
  cases q : G.opOf op (.obj k fs) with
  | none => rw [q] at h; exact h.elim
  | some p =>
    rw [q] at h
    obtain ⟨k', fs', cc, he, hcc, hmem⟩ := opOf_some q
    cases he
    obtain ⟨hk, ⟨dd, hdd, hcl, hnm⟩, ⟨dr, hdr, hclr, hnmr⟩⟩ := C.wf.ops k cc (op, p) hcc hmem
    obtain ⟨a, fd, ps, F, hb, hp, hkp, _, hm⟩ := C.calls p.1 dd hdd
    obtain ⟨M, _⟩ := hm k hcl
    rw [hnm, C.K] at M
    obtain ⟨a', fd', ps', F', hb', hp', hkp', _, hm'⟩ := C.calls p.2 dr hdr
    obtain ⟨M', _⟩ := hm' k hclr
    rw [hnmr, C.K] at M'
    obtain ⟨o1, ⟨fo, o2⟩, ⟨ro, o3⟩, o4⟩ := C.st.ops k cc (op, p) hcc hmem
    rw [C.K] at o1 o2 o3 o4
    obtain ⟨pa, dx, vs, hxr, hfx, hvl, hvs⟩ := obj_of hx
    subst hxr
    cases rx
    obtain ⟨mA, J, _⟩ := ins_get I.hok hfx.1
    obtain ⟨od, J, _⟩ := J.look
    obtain ⟨m, hF⟩ := I.fr
    have back : ∀ {d : D}, fzs [.obj k fs, e] = some [.obj k fs, d] → Post g c H (fun cls dx H' => W cls dx σ H') Q (Tk.call G n p.1 [.obj k fs, d] S) → wpAny (model X.prog X.w) X.A (PySem.call (.ref a) [.ref pa, u]) (PySem.W.CmpBack (EP X pins σ Q)) X.xe s := fun {d} hds h => by
      have hrs : RepTs g c H [.obj k fs, e] [.ref pa, y] := ⟨_, _, rfl, hx, _, _, rfl, hy, rfl⟩
      exact wpAny_mono (own_call C hdd F hb hp I (show Vals [V.ref pa, y] [Value.ref pa, u] from .cons rfl (.cons ry .nil)) hsu r (hrs.rest hds) h) (fun w s' z => cmpBack_of z fun v H' q => q) fun _ _ z => z
    cases e with
    | int j =>
      rw [int_of hy] at ry
      have ry0 := ry
      obtain ⟨t, rfl⟩ := ry
      exact PySem.W.ksp_binT (T := "int") hF I.ok.mod.kin J rfl o1 M.at_ M.fn M'.at_ (.inr ⟨_, rfl⟩) o2 o3 o4 (back (d := .int j) rfl h)
    | obj j gs =>
      have h : Post g c H (fun cls dx H' => W cls dx σ H') Q (if j = k then Tk.call G n p.1 [.obj k fs, .obj j gs] S else .bad) := h
      by_cases hj : j = k
      · rw [if_pos hj] at h
        subst hj
        obtain ⟨pb, dx2, vs2, hyr, hfy, _, _⟩ := obj_of hy
        subst hyr
        cases ry
        obtain ⟨mB, J2, _⟩ := ins_get I.hok hfy.1
        obtain ⟨od2, J2, _⟩ := J2.look
        exact PySem.W.binop_K hF I.ok.mod.kin J J2.type o1 M.at_ M.fn (back (d := .obj j gs) rfl h)
      · rw [if_neg hj] at h; exact h.elim
    | _ => exact h.elim
/-- an own operator, asked at the right -/
theorem bin_ownR (C : Cok G g n true su X W) (op : Bi) {k : Nat} {fs : List D} {i : Int} {x y : V} {v u : Value} {pins : List (Addr × Obj)} {s : Shared} (I : Inv X pins σ H s) (rx : RelV x v) (ry : RelV y u) (hsu : c.su = su) (r : RelS g c H S) (hx : RepT g c H (.int i) x) (hy : RepT g c H (.obj k fs) y)
    (h : Post g c H (fun cls dx H' => W cls dx σ H') Q (binRt (Tk.call G n) op k fs i S (G.opOf op (.obj k fs)))) : wpAny (model X.prog X.w) X.A (binaryOp (toOp op) v u) (EP X pins σ Q) X.xe s := by
  cases q : G.opOf op (.obj k fs) with
  | none => rw [q] at h; exact h.elim
  | some p =>
    rw [q] at h
    have h : Post g c H (fun cls dx H' => W cls dx σ H') Q (if rOk op then Tk.call G n p.2 [.obj k fs, .int i] S else .bad) := h
    by_cases ho : rOk op = true
    · rw [if_pos ho] at h
      obtain ⟨k', fs', cc, he, hcc, hmem⟩ := opOf_some q
      cases he
      obtain ⟨hk, ⟨dd, hdd, hcl, hnm⟩, ⟨dr, hdr, hclr, hnmr⟩⟩ := C.wf.ops k cc (op, p) hcc hmem
      obtain ⟨a', fd', ps', F', hb', hp', hkp', _, hm'⟩ := C.calls p.1 dd hdd
      obtain ⟨M', _⟩ := hm' k hcl
      rw [hnm, C.K] at M'
      obtain ⟨a, fd, ps, F, hb, hp, hkp, _, hm⟩ := C.calls p.2 dr hdr
      obtain ⟨M, _⟩ := hm k hclr
      rw [hnmr, C.K] at M
      obtain ⟨o1, _, _, _⟩ := C.st.ops k cc (op, p) hcc hmem
      have hT := C.st.subT k hk
      rw [C.K] at o1 hT
      obtain ⟨pa, dx, vs, hyr, hfx, hvl, hvs⟩ := obj_of hy
      subst hyr
      cases ry
      obtain ⟨mA, J, _⟩ := ins_get I.hok hfx.1
      have hob := J.obj
      obtain ⟨od, J, _⟩ := J.look
      have hrs : RepTs g c H [.obj k fs, .int i] [.ref pa, x] := ⟨_, _, rfl, hy, _, _, rfl, hx, rfl⟩
      have back := wpAny_mono (own_call C hdr F hb hp I (show Vals [V.ref pa, x] [Value.ref pa, v] from .cons rfl (.cons rx .nil)) hsu r (hrs.rest rfl) h) (fun w s' z => cmpBack_of z fun v H' q => q) fun _ _ z => z
      have hnp : ∀ i t, (PySem.W.instObj (g.ca k) dx).data ≠ .prim (.int i t) := fun i t z => by cases z
      rw [int_of hx] at rx
      obtain ⟨t, rfl⟩ := rx
      cases op with
      | add => exact bin_right I.kIn J o1 M'.at_ hT.1 PySem.F.fills_int_add PySem.F.slot_int_add (wpAny_call_entry PySem.F.slot_int_add (typeIs_int s i t) PySem.F.entry_int_add (int_add_inst i t hob hnp ⟨_, rfl, rfl, rfl⟩) (PySem.F.args_int_add_2 _ _)) M.at_ M.fn back
      | sub => exact bin_right I.kIn J o1 M'.at_ hT.1 PySem.F.fills_int_sub PySem.F.slot_int_sub (wpAny_call_entry PySem.F.slot_int_sub (typeIs_int s i t) PySem.F.entry_int_sub (int_sub_inst i t hob hnp ⟨_, rfl, rfl, rfl⟩) (PySem.F.args_int_sub_2 _ _)) M.at_ M.fn back
      | mul => exact bin_right I.kIn J o1 M'.at_ hT.1 PySem.F.fills_int_mul PySem.F.slot_int_mul (wpAny_call_entry PySem.F.slot_int_mul (typeIs_int s i t) PySem.F.entry_int_mul (int_mul_inst i t hob hnp ⟨_, rfl, rfl, rfl⟩) (PySem.F.args_int_mul_2 _ _)) M.at_ M.fn back
      | _ => cases ho
    · rw [if_neg ho] at h; exact h.elim
theorem rep_flat {xs : List D} {vs : List V} (h : Reps g c H xs vs) : ∀ k : Nat, Reps g c H (List.replicate k xs).flatten (List.replicate k vs).flatten
  | 0 => Reps.nil
  | k + 1 => by rw [List.replicate_succ, List.replicate_succ, List.flatten_cons, List.flatten_cons]; exact h.append (rep_flat h k)
/-- + - * .. -/
theorem opr_bin (C : Cok G g n true su X W) (op : Bi) : OpRs X (binaryOp (toOp op)) (rSem g su W (binD G (Tk.call G n) op)) := by
  intro pins s σ H x y v u Q I rx ry h
  obtain ⟨c, S, d, e, hsu, r, hx, hy, h⟩ := h
  by_cases hi : ∃ i j, d = .int i ∧ e = .int j
  · obtain ⟨i, j, rfl, rfl⟩ := hi
    rw [show binD G (Tk.call G n) op (.int i) (.int j) S = binI op i j S from rfl] at h
    rw [int_of hx] at rx
    rw [int_of hy] at ry
    have key : ∀ z, (∀ S, binI op i j S = .ok (.int z) S) → wpAny (model X.prog X.w) X.A (binaryOp (toOp op) v u) (EP X pins σ Q) X.xe s := fun z hz => by
      rw [hz] at h
      exact opr_int op pins s σ H _ _ v u Q I rx ry ⟨i, j, z, rfl, rfl, hz, h.int r⟩
    cases op with
    | add => exact key (i + j) fun _ => rfl
    | sub => exact key (i - j) fun _ => rfl
    | mul => by_cases hm : mulOk i j
             · exact key (i * j) fun _ => by simp [binI, hm]
             · simp [binI, hm, Post] at h
    | fdiv => by_cases hm : divOk j
              · exact key (i.fdiv j) fun _ => by simp [binI, hm]
              · simp [binI, hm, Post] at h
    | mod => by_cases hm : j ≠ 0
             · exact key (i.fmod j) fun _ => by simp [binI, hm]
             · simp [binI, hm, Post] at h
    | pow => by_cases hm : powOk i j
             · exact key (i ^ j.toNat) fun _ => by simp [binI, hm]
             · simp [binI, hm, Post] at h
  · by_cases hl : ∃ k fs, d = .obj k fs
    · obtain ⟨k, fs, rfl⟩ := hl
      exact bin_own C op I rx ry hsu r hx hy h
    by_cases hr : ∃ i k fs, d = .int i ∧ e = .obj k fs
    · obtain ⟨i, k, fs, rfl, rfl⟩ := hr
      exact bin_ownR C op I rx ry hsu r hx hy h
    have e2 : binD G (Tk.call G n) op d e S = binS S op (fz d) (fz e) := by
      unfold binD
      cases d <;> first | rfl | exact absurd ⟨_, _, rfl⟩ hl | (cases e <;> first | rfl | exact absurd ⟨_, _, rfl, rfl⟩ hi | exact absurd ⟨_, _, _, rfl, rfl⟩ hr)
    rw [e2] at h
    -- a list at rest or passing: a tracked list
    have lsts : ∀ (d : D) (x : V) xs, RepT g c H d x → fz d = .lst xs → ∃ a vs, x = .ref a ∧ H a = some (.lst vs) ∧ Reps g c H xs vs := by
      intro d x xs hx hd
      cases d with
      | lst ys => cases hd; obtain ⟨a, vs, h1, h2, h3⟩ := rep_ref hx; exact ⟨a, vs, h1, h2.1, h3⟩
      | new ys => cases hd; obtain ⟨a, vs, h1, h2, h3⟩ := hx; exact ⟨a, vs, h1, h2.1, h3⟩
      | own i ys => cases hd; obtain ⟨a, vs, h1, h2, h3, h4⟩ := hx; exact ⟨a, vs, h1, h2, h4⟩
      | _ => cases hd
    have tups : ∀ (d : D) (x : V) xs, RepT g c H d x → fz d = .tup xs → ∃ a vs, x = .ref a ∧ SqT X.K H a vs ∧ Reps g c H xs vs := by
      intro d x xs hx hd
      cases d with
      | tup ys =>
        cases hd
        obtain ⟨a, vs, h1, _, h3, h4, _⟩ := seq_at C.K r hx (xs := xs) rfl
        exact ⟨a, vs, h1, h4 _ rfl, h3⟩
      | _ => cases hd
    cases op with
    | add =>
      cases q1 : fz d with
      | tup xs =>
        cases q2 : fz e with
        | tup ys =>
          rw [q1, q2] at h
          have h' : Post g c H (fun cls dx H' => W cls dx σ H') Q (if xs.length + ys.length ≤ LIM then .ok (.tup (xs ++ ys)) S else .bad) := h
          by_cases hc : xs.length + ys.length ≤ LIM
          · rw [if_pos hc] at h'
            obtain ⟨a, vs, h1, h2, h3⟩ := tups d x xs hx q1
            obtain ⟨b, ws, h4, h5, h6⟩ := tups e y ys hy q2
            have l1 := h3.length
            have l2 := h6.length
            have ed : d = .tup xs := by cases d <;> first | exact q1 | cases q1
            have ee : e = .tup ys := by cases e <;> first | exact q2 | cases q2
            subst ed ee
            refine op_catA pins s σ H x y v u Q I rx ry ⟨a, b, vs, ws, h1, h4, h2, h5, by rw [l1, l2]; exact lim_line hc, fun z => ?_, fun _ z => ?_, fun _ _ p hp => Post.tup r (h3.append h6) hp h'⟩
            · have e0 : xs = [] := List.length_eq_zero_iff.mp (by rw [← l1, z]; rfl)
              rw [e0, List.nil_append] at h'
              exact h4 ▸ h'.now r hy (fun _ z => by cases z)
            · have e0 : ys = [] := List.length_eq_zero_iff.mp (by rw [← l2, z]; rfl)
              rw [e0, List.append_nil] at h'
              exact h1 ▸ h'.now r hx (fun _ z => by cases z)
          · rw [if_neg hc] at h'; exact h'.elim
        | _ => rw [q1, q2] at h; exact h.elim
      | lst xs =>
        cases q2 : fz e with
        | lst ys =>
          rw [q1, q2] at h
          have h' : Post g c H (fun cls dx H' => W cls dx σ H') Q (if xs.length + ys.length ≤ LIM then .ok (.new (xs ++ ys)) S else .bad) := h
          by_cases hc : xs.length + ys.length ≤ LIM
          · rw [if_pos hc] at h'
            obtain ⟨a, vs, h1, h2, h3⟩ := lsts d x xs hx q1
            obtain ⟨b, ws, h4, h5, h6⟩ := lsts e y ys hy q2
            refine op_cat pins s σ H x y v u Q I rx ry ⟨a, b, vs, ws, h1, h4, h2, h5, ?_, fun p hp => Post.lst r (h3.append h6) hp h'⟩
            rw [h3.length, h6.length]; exact lim_line hc
          · rw [if_neg hc] at h'; exact h'.elim
        | _ => rw [q1, q2] at h; exact h.elim
      | _ => rw [q1] at h; exact h.elim
    | mul =>
      cases q1 : fz d with
      | lst xs =>
        cases q2 : fz e with
        | int k =>
          rw [q1, q2] at h
          have h' : Post g c H (fun cls dx H' => W cls dx σ H') Q (if 0 ≤ k ∧ k ≤ (LIM : Int) ∧ xs.length * k.toNat ≤ LIM then .ok (.new (List.replicate k.toNat xs).flatten) S else .bad) := h
          by_cases hc : 0 ≤ k ∧ k ≤ (LIM : Int) ∧ xs.length * k.toNat ≤ LIM
          · rw [if_pos hc] at h'
            obtain ⟨a, vs, h1, h2, h3⟩ := lsts d x xs hx q1
            have ee : e = .int k := by cases e <;> first | exact q2 | cases q2
            subst ee
            have hlim : (LIM : Int) < 2 ^ 63 := by decide
            refine op_rep pins s σ H x y v u Q I rx ry ⟨a, k, vs, h1, int_of hy, h2, by omega, by omega, by rw [h3.length]; exact lim_line hc.2.2, fun p hp => Post.lst r (rep_flat h3 k.toNat) hp h'⟩
          · rw [if_neg hc] at h'; exact h'.elim
        | _ => rw [q1, q2] at h; exact h.elim
      | _ => rw [q1] at h; exact h.elim
    | _ => cases q1 : fz d <;> cases q2 : fz e <;> rw [q1, q2] at h <;> exact h.elim

/-! ### comparisons -/
theorem subT_own {T : String} {K : PySem.W.Frag} {C : Addr} (hT : T ∈ ["NoneType", "bool", "int", "str", "tuple", "list", "dict"]) : PySem.W.subIn K (.type T) (.ref C) = some false := by
  simp only [List.mem_cons, List.not_mem_nil, or_false] at hT
  have key : ∀ U : String, (∃ l, fastBuiltinMro U = some l ∧ l.all (fun v => match v with | .type _ => true | _ => false) = true) → PySem.W.subIn K (.type U) (.ref C) = some false := by
    intro U ⟨l, h1, h2⟩
    show (fastBuiltinMro U).map (·.contains (.ref C)) = some false
    rw [h1]
    show some (l.contains (.ref C)) = some false
    congr 1
    induction l with
    | nil => rfl
    | cons a l ih =>
      rw [List.all_cons, Bool.and_eq_true] at h2
      rw [List.contains_cons]
      have e : (Value.ref C == a) = false := by
        cases a <;> first | rfl | (simp at h2; done) | skip
        all_goals simp
      rw [e, Bool.false_or]
      clear h1
      obtain ⟨_, h3⟩ := h2
      revert h3
      intro h3
      have : ∀ l : List Value, l.all (fun v => match v with | .type _ => true | _ => false) = true → l.contains (.ref C) = false := by
        intro l
        induction l with
        | nil => intro _; rfl
        | cons b l ih2 =>
          intro h
          rw [List.all_cons, Bool.and_eq_true] at h
          rw [List.contains_cons, ih2 h.2, Bool.or_false]
          cases b <;> first | rfl | (simp at h; done) | simp
      exact this l h3
  rcases hT with rfl | rfl | rfl | rfl | rfl | rfl | rfl <;> exact key _ ⟨_, rfl, by decide +kernel⟩
theorem ne_non {d : D} {v : V} (h : RepT g c H d v) (hd : d ≠ .non) : v ≠ .non := by
  intro z
  subst z
  cases d <;> first
    | exact hd rfl
    | (obtain ⟨a, vs, h1, _⟩ := h; cases h1; done)
    | (obtain ⟨a, h1, _⟩ := h; cases h1; done)
    | (change Rep g c H _ _ at h; rw [Rep] at h; first | (cases h; done) | (obtain ⟨a, h1, _⟩ := h; cases h1; done) | (obtain ⟨a, dx, h1, _⟩ := h; simp at h1; done) | (obtain ⟨a, dx, vs, h1, _⟩ := h; cases h1; done) | (obtain ⟨a, vs, h1, _⟩ := h; cases h1; done))
def toV : D → V
  | .bl b => .bl b
  | .int i => .int i
  | .str s => .str s
  | _ => .non
theorem flat_v {a : D} {v : V} (ha : RepT g c H a v) (fa : flat a = true) : v = toV a := by
  cases a with
  | non => exact non_of ha
  | bl b => exact bl_of ha
  | int i => exact int_of ha
  | str s => change Rep g c H _ v at ha; rw [Rep] at ha; exact ha
  | _ => cases fa
theorem eqV_eqB {a b : D} {v u : V} (ha : RepT g c H a v) (hb : RepT g c H b u) (fa : flat a = true) (fb : flat b = true) : flatV v = true ∧ flatV u = true ∧ eqV v u = eqB a b := by
  rw [flat_v ha fa, flat_v hb fb]
  cases a <;> (try (cases fa; done)) <;> cases b <;> (try (cases fb; done)) <;> exact ⟨rfl, rfl, by simp [toV, eqV, eqB]⟩
theorem inV_any : ∀ {ys : List D} {vs : List V} {x : D} {v : V}, Reps g c H ys vs → RepT g c H x v → flat x = true → ys.all flat = true → vs.all flatV = true ∧ inV v vs = ys.any fun z => eqB z x
  | [], vs, x, v, h, hx, fx, fy => by rw [Reps] at h; subst h; exact ⟨rfl, rfl⟩
  | y :: ys, vs, x, v, h, hx, fx, fy => by
    obtain ⟨w, r, h1, h2, h3⟩ := Reps.cons_iff.mp h
    subst h1
    rw [List.all_cons, Bool.and_eq_true] at fy
    obtain ⟨h4, h5⟩ := inV_any h3 hx fx fy.2
    have hT : RepT g c H y w := by cases y <;> first | exact h2 | (cases fy.1; done)
    obtain ⟨q1, q2, q3⟩ := eqV_eqB hT hx fy.1 fx
    refine ⟨by rw [List.all_cons, q1, h4]; rfl, ?_⟩
    show (eqV w v || r.any fun z => eqV z v) = _
    rw [List.any_cons, q3]
    congr 1

/-- what an own == gives, a truth -/
theorem Post.kBl {WW : WH} {r : R D} (h : Post g c H WW Q (r.bind kBl)) : Post g c H WW (fun v H' => (∃ b, v = .bl b) ∧ Q v H') r := by
  refine Post.bind h fun d S1 v H1 c1 _ q h1 => ?_
  cases d with
  | bl b => exact ⟨⟨b, bl_of q.r⟩, by rw [bl_of q.r]; exact Post.bl q.s h1⟩
  | _ => exact h1.elim
theorem eqOf_obj {d : D} {f : Nat} (h : G.eqOf d = some f) : ∃ k fs cc, d = .obj k fs ∧ G.clss[k]? = some cc ∧ cc.eq = some f := by
  cases d with
  | obj k fs =>
    have h' : (match G.clss[k]? with | some c => c.eq | none => none) = some f := h
    cases q : G.clss[k]? with
    | none => rw [q] at h'; cases h'
    | some cc => rw [q] at h'; exact ⟨k, fs, cc, rfl, q, h'⟩
  | _ => cases h
/-- the other operand's type, and that it is asked second -/
theorem notFirst_of (C : Cok G g n cm su X W) {k : Nat} (hk : G.cls? k = true) {e : D} (hn : noExn e = true) (he : ∀ j fs, e = .obj j fs → G.cls? j = true) : PySem.W.notFirst X.K (g.ca k) (tyV g e) = true := by
  unfold PySem.W.notFirst
  rw [Bool.or_eq_true]
  have T : ∀ T, T ∈ ["NoneType", "bool", "int", "str", "tuple", "list", "dict"] → (PySem.W.subIn X.K (.type T) (.ref (g.ca k)) == some false) = true := fun T hT => by rw [subT_own hT]; rfl
  cases e with
  | exn k fs => cases hn
  | obj j fs =>
    by_cases q : k = j
    · left; subst q; exact beq_self_eq_true _
    · right
      have := C.st.sub2 k j hk (he j fs rfl) q
      rw [C.K] at this
      show (PySem.W.subIn X.K (.ref (g.ca j)) (.ref (g.ca k)) == some false) = true
      rw [this]; rfl
  | _ => right; exact T _ (by simp)
/-- an own == called by the left operand -/
theorem eq_left (C : Cok G g n true su X W) {d e : D} {f : Nat} {x y : V} {v u : Value} {pins : List (Addr × Obj)} {s : Shared} (I : Inv X pins σ H s) (rx : RelV x v) (ry : RelV y u) (hsu : c.su = su) (r : RelS g c H S) (hx : RepT g c H d x) (hy : RepT g c H e y)
    (hf : G.eqOf d = some f) (hn : noExn e = true) (he : ∀ j fs, e = .obj j fs → G.cls? j = true) (hl : ∀ k, e = .loc k → ∃ xs, S[k]? = some (.lst xs)) {ds : List D} (hds : fzs [d, e] = some ds)
    (h : Post g c H (fun cls dx H' => W cls dx σ H') Q ((Tk.call G n f ds S).bind kBl)) : wpAny (model X.prog X.w) X.A (richCompare .Eq v u) (EP X pins σ Q) X.xe s := by
  obtain ⟨h1, h2, h3⟩ := C.cm rfl
  obtain ⟨k, fs, cc, rfl, hcc, heq⟩ := eqOf_obj hf
  obtain ⟨hk, dd, hdd, hcl, hnm⟩ := C.wf.eq k cc f hcc heq
  obtain ⟨a, fd, ps, F, hb, hp, hkp, _, hm⟩ := C.calls f dd hdd
  obtain ⟨M, _⟩ := hm k hcl
  rw [hnm, C.K] at M
  obtain ⟨p, dx, vs, hxr, hfx, hvl, hvs⟩ := obj_of hx
  subst hxr
  cases rx
  obtain ⟨mA, J, _⟩ := ins_get I.hok hfx.1
  obtain ⟨od, J, _⟩ := J.look
  obtain ⟨m, hF⟩ := I.fr
  obtain ⟨P, Z, pz, hxx⟩ := kit_of I ry (tyx_of C r hy hn he hl)
  refine PySem.W.cmp_K (op := .Eq) (tb := tyV g e) h2.units0 hF I.ok.mod.kin J (Z.ty _ _ I.kIn pz) (notFirst_of C hk hn he) M.at_ M.fn ?_
  have hrs : RepTs g c H [.obj k fs, e] [.ref p, y] := ⟨_, _, rfl, hx, _, _, rfl, hy, rfl⟩
  refine wpAny_mono (own_call C hdd F hb hp I (show Vals [V.ref p, y] [Value.ref p, u] from .cons rfl (.cons ry .nil)) hsu r (hrs.rest hds) (Post.kBl h)) (fun w s' z => cmpBack_of z fun v H' q => q.2) fun _ _ z => z

/-! ### == of an int or a flag with an instance: the instance's own == is asked -/
theorem int_eq_inst {M : Model} {A : Around} {E : Value → Shared → Prop} {Q : PySem.Fin → Shared → Prop} {s : Shared} {b : Addr} {ob : Obj} (a : Int) (t : Tok) (he : s.heap.get? b = some ob) (hd : ∀ i t, ob.data ≠ .prim (.int i t)) (h : Q (.done (.ret .notImplemented)) s) :
    wpAny M A (Builtin.«int.__eq__» ⟨[.int a t, .ref b], []⟩) Q E s := by
  obtain ⟨hp, g, d, tk, os⟩ := s
  wp_walk using wpAny_load he
  split
  · rename_i q; exact absurd q (hd _ _)
  · wp_walk
    exact h
theorem bool_eq_inst {M : Model} {A : Around} {E : Value → Shared → Prop} {Q : PySem.Fin → Shared → Prop} {s : Shared} {b : Addr} {ob : Obj} (a : Bool) (he : s.heap.get? b = some ob) (hd : ∀ i t, ob.data ≠ .prim (.int i t)) (h : Q (.done (.ret .notImplemented)) s) :
    wpAny M A (Builtin.«int.__eq__» ⟨[.bool a, .ref b], []⟩) Q E s := by
  obtain ⟨hp, g, d, tk, os⟩ := s
  wp_walk using wpAny_load he
  split
  · rename_i q; exact absurd q (hd _ _)
  · wp_walk
    exact h
/-- the left one gives way -/
theorem rc_right {prog : Program} {w : World} {A : Around} {E : Value → Shared → Prop} {s : Shared} {K : PySem.W.Frag} {x C f : Addr} {ox : Obj} {od : Option Obj} {a : Value} {T : String} {Q : Value → Shared → Prop} (hu : A.units < cLine) (X : K.In s.heap) (I : PySem.W.InstAt s.heap x ox C od)
    (hT : s.TypeIs a T) (h1 : oneThing? .Eq a (.ref x) = none) (hs : PySem.Slot T "__eq__" "int.__eq__") (hsub : PySem.W.subIn K (.ref C) (.type T) = some false)
    (hm : PySem.W.findIn K (.ref C) "__eq__" = some (some (.ref f))) (hf : PySem.W.isFn K (.ref f) = true)
    (hdec : wpAny (model prog w) A (PySem.call (.builtin "int.__eq__") [a, .ref x]) (fun v s' => v = .notImplemented ∧ s' = s) E s)
    (h : wpAny (model prog w) A (PySem.call (.ref f) [.ref x, a]) (PySem.W.CmpBack Q) E s) : wpAny (model prog w) A (richCompare .Eq a (.ref x)) Q E s := by
  have one : wpAny (model prog w) A (tryCompare (.ref x) "__eq__" a) (fun r s' => ∃ v, r = some v ∧ Q v s') E s := by
    unfold tryCompare
    refine wpAny_bind (PySem.W.ifBound_K X I hm hf (wpAny_mono h (fun v s' hv => ?_) fun _ _ e => e))
    cases v <;> first | exact hv.elim | exact wpAny_pure ⟨_, rfl, hv⟩
  have two : wpAny (model prog w) A (tryCompare a "__eq__" (.ref x)) (fun r s' => r = none ∧ s' = s) E s :=
    wpAny_tryCompare_declines hT hs (wpAny_mono hdec (fun v s' q => ⟨q.1, rfl, q.2⟩) fun _ _ z => z)
  simp only [richCompare, cmpInfo_Eq, h1]
  refine wpAny_holding (wpAny_bind (wpAny_cRoomFor hu ?_))
  refine wpAny_bind (wpAny_typeOf hT ?_)
  refine wpAny_bind (I.type.here ?_)
  have hne : (Value.type T != Value.ref C) = true := by simp
  rw [hne]
  simp only [if_true]
  refine wpAny_bind ((PySem.W.looks_subIn X hsub).here ?_)
  simp only [Bool.false_eq_true, if_false, Bool.not_false, if_true]
  refine wpAny_bind (m := tryCompare a _ (.ref x)) (wpAny_mono two (fun r s1 z => ?_) fun _ _ e => e)
  obtain ⟨z1, z2⟩ := z
  subst z1
  subst z2
  refine wpAny_bind (m := tryCompare (.ref x) _ a) (wpAny_mono one (fun r s2 z => ?_) fun _ _ e => e)
  obtain ⟨v, z1, z2⟩ := z
  subst z1
  exact wpAny_pure z2
/-- an own == called by the right operand, an int or a flag at the left -/
theorem eq_right (C : Cok G g n true su X W) {d e : D} {f : Nat} {x y : V} {v u : Value} {pins : List (Addr × Obj)} {s : Shared} (I : Inv X pins σ H s) (rx : RelV x v) (ry : RelV y u) (hsu : c.su = su) (r : RelS g c H S) (hx : RepT g c H d x) (hy : RepT g c H e y)
    (hf : G.eqOf e = some f) (hl : leftOk d = true) {ds : List D} (hds : fzs [e, d] = some ds)
    (h : Post g c H (fun cls dx H' => W cls dx σ H') Q ((Tk.call G n f ds S).bind kBl)) : wpAny (model X.prog X.w) X.A (richCompare .Eq v u) (EP X pins σ Q) X.xe s := by
  obtain ⟨h1, h2, h3⟩ := C.cm rfl
  obtain ⟨k, fs, cc, rfl, hcc, heq⟩ := eqOf_obj hf
  obtain ⟨hk, dd, hdd, hcl, hnm⟩ := C.wf.eq k cc f hcc heq
  obtain ⟨a, fd, ps, F, hb, hp, hkp, _, hm⟩ := C.calls f dd hdd
  obtain ⟨M, _⟩ := hm k hcl
  rw [hnm, C.K] at M
  have hT := C.st.subT k hk
  rw [C.K] at hT
  obtain ⟨p, dx, vs, hxr, hfx, hvl, hvs⟩ := obj_of hy
  subst hxr
  cases ry
  obtain ⟨mA, J, _⟩ := ins_get I.hok hfx.1
  have hob := J.obj
  obtain ⟨od, J, _⟩ := J.look
  have hrs : RepTs g c H [.obj k fs, d] [.ref p, x] := ⟨_, _, rfl, hy, _, _, rfl, hx, rfl⟩
  have call := own_call C hdd F hb hp I (show Vals [V.ref p, x] [Value.ref p, v] from .cons rfl (.cons rx .nil)) hsu r (hrs.rest hds) (Post.kBl h)
  have back := wpAny_mono call (fun w s' z => cmpBack_of z fun v H' (q : (∃ b, v = .bl b) ∧ Q v H') => q.2) fun _ _ z => z
  have hnp : ∀ i t, (PySem.W.instObj (g.ca k) dx).data ≠ .prim (.int i t) := fun i t z => by cases z
  cases d with
  | int i =>
    rw [int_of hx] at rx
    obtain ⟨t, rfl⟩ := rx
    refine rc_right h2.units0 I.kIn J (T := "int") (typeIs_int s i t) rfl slot_int_eq hT.1 M.at_ M.fn ?_ back
    exact wpAny_call_entry slot_int_eq (typeIs_int s i t) entry_int_eq (int_eq_inst i t hob hnp ⟨_, rfl, rfl, rfl⟩) (args_int_eq _ _)
  | bl b =>
    rw [bl_of hx] at rx
    cases rx
    refine rc_right h2.units0 I.kIn J (T := "bool") (show s.TypeIs (.bool b) "bool" from rfl) rfl PySem.F.slot_bool_eq hT.2 M.at_ M.fn ?_ back
    exact wpAny_call_entry PySem.F.slot_bool_eq (show s.TypeIs (.bool b) "bool" from rfl) entry_int_eq (bool_eq_inst b hob hnp ⟨_, rfl, rfl, rfl⟩) (args_int_eq _ _)
  | _ => cases hl

/-! ### == of tuples whose items are compared by the text -/
theorem ext_cy {H H' : Hp} (e : L2.Ext H H') : Cy c H c H' := ⟨fun a o h => ⟨e _ _ h.1, h.2⟩, fun _ _ h => h⟩
theorem ext_e {H H' : Hp} (e : L2.Ext H H') : E c H c H' := ⟨List.prefix_refl _, rfl, rfl, fun b o h n => ⟨e _ _ h, n⟩, fun b h => by
  cases q : H b with
  | none => exact absurd q h
  | some o => rw [e _ _ q]; intro z; cases z⟩
theorem RelS.ext (r : RelS g c H S) {H' : Hp} (e : L2.Ext H H') : RelS g c H' S := ⟨r.nd, r.len, fun a h => ⟨(r.x a h).1, (ext_e (c := c) e).dom a (r.x a h).2⟩, fun k ce a h1 h2 => (r.ok k ce a h1 h2).cy (ext_cy e) fun ob q => e _ _ q⟩
/-- two values, and how the evaluator compares them -/
def DD (G : Prog) (g : Wd) (n m : Nat) : Eqr := fun x y b H => ∃ c c' d e, Rep g c H d x ∧ Rep g c' H e y ∧ eqT G (Tk.call G n) m d e = some b
theorem dd_mon {m : Nat} : MonR (DD G g n m) := by
  rintro x y b H H' e ⟨c, c', d, f, h1, h2, h3⟩
  exact ⟨c, c', d, f, Rep.cy (ext_cy e) _ _ h1, Rep.cy (ext_cy e) _ _ h2, h3⟩
theorem ints_rep : ∀ {fs : List D} {vs : List V}, fs.all isIntD = true → Reps g c H fs vs → ∀ {gs : List D} {ws : List V}, gs.all isIntD = true → Reps g c' H' gs ws → vs = ws → eqBs fs gs = true
  | [], vs, _, h, [], ws, _, k, e => rfl
  | [], vs, _, h, d :: gs, ws, _, k, e => by
    rw [Reps] at h; rw [Reps] at k
    obtain ⟨v, r, k1, _⟩ := k
    rw [h, k1] at e; cases e
  | d :: fs, vs, _, h, [], ws, _, k, e => by
    rw [Reps] at h; rw [Reps] at k
    obtain ⟨v, r, k1, _⟩ := h
    rw [k, k1] at e; cases e
  | d :: fs, vs, hf, h, f :: gs, ws, hg, k, e => by
    rw [List.all_cons, Bool.and_eq_true] at hf hg
    rw [Reps] at h; rw [Reps] at k
    obtain ⟨v, r, h1, h2, h3⟩ := h
    obtain ⟨w, t, k1, k2, k3⟩ := k
    rw [h1, k1] at e
    injection e with e1 e2
    subst e1
    show (eqB d f && eqBs fs gs) = true
    rw [ints_rep hf.2 h3 hg.2 k3 e2, Bool.and_true]
    cases d with
    | int i =>
      cases f with
      | int j =>
        rw [Rep] at h2 k2
        rw [h2] at k2
        cases k2
        exact beq_self_eq_true i
      | _ => cases hg.1
    | _ => cases hf.1
theorem ints_bare : ∀ {fs : List D} {vs : List V}, fs.all isIntD = true → Reps g c H fs vs → Reps g c' H' fs vs
  | [], vs, _, h => by rw [Reps] at h; rw [Reps]; exact h
  | d :: fs, vs, hf, h => by
    rw [List.all_cons, Bool.and_eq_true] at hf
    rw [Reps] at h
    rw [Reps]
    obtain ⟨v, r, h1, h2, h3⟩ := h
    refine ⟨v, r, h1, ?_, ints_bare hf.2 h3⟩
    cases d with
    | int i => rw [Rep] at h2; rw [Rep]; exact h2
    | _ => cases hf.1
theorem zip_inj {α β : Type} : ∀ {ks : List α} {vs ws : List β}, vs.length = ks.length → ws.length = ks.length → ks.zip vs = ks.zip ws → vs = ws
  | [], [], [], _, _, _ => rfl
  | k :: ks, v :: vs, w :: ws, h1, h2, e => by
    rw [List.zip_cons_cons, List.zip_cons_cons] at e
    injection e with e1 e2
    injection e1 with _ e3
    rw [e3, zip_inj (by simpa using h1) (by simpa using h2) e2]
  | [], _ :: _, _, h, _, _ => by cases h
  | [], [], _ :: _, _, h, _ => by cases h
  | _ :: _, [], _, h, _, _ => by cases h
  | _ :: _, _ :: _, [], _, h, _ => by cases h
theorem rep_T0 {d : D} {v : V} (h : Rep g c H d v) (f : flat d = true) : RepT g c H d v := by cases d <;> first | exact h | (cases f; done)
/-- one pair -/
theorem item_ok (C : Cok G g n true su X W) {A : Around} {pins : List (Addr × Obj)} {s : Shared} {x y : V} {b : Bool} {u v : Value} {d e : D} (sb : L2.Sub X (lv n) A) (I : Inv X pins σ H s) (rx : RelV x u) (ry : RelV y v) (hx : Rep g c H d x) (hy : Rep g c' H e y)
    (h : itemT G (Tk.call G n) d e = some b) : wpAny (model X.prog X.w) A (eqBool u v) (fun r s' => r = b ∧ ∃ H', Inv X pins σ H' s' ∧ L2.Ext H H') X.xe s := by
  have plain : (if flat d && flat e then some (eqB d e) else none) = some b → wpAny (model X.prog X.w) A (eqBool u v) (fun r s' => r = b ∧ ∃ H', Inv X pins σ H' s' ∧ L2.Ext H H') X.xe s := by
    intro h
    by_cases hf : (flat d && flat e) = true
    · rw [if_pos hf] at h
      rw [Bool.and_eq_true] at hf
      obtain ⟨q1, q2, q3⟩ : flatV x = true ∧ flatV y = true ∧ eqV x y = eqB d e := by
        rw [flat_v (rep_T0 hx hf.1) hf.1, flat_v (rep_T0 hy hf.2) hf.2]
        cases d <;> (try (cases hf.1; done)) <;> cases e <;> (try (cases hf.2; done)) <;> exact ⟨rfl, rfl, by simp [toV, eqV, eqB]⟩
      exact (eqR_flat (X := X)).mono (Nat.zero_le _) A pins s σ H x y b u v sb I rx ry ⟨q1, q2, by rw [q3]; exact Option.some.inj h⟩
    · rw [if_neg hf] at h; cases h
  cases d with
  | obj k fs =>
    cases e with
    | obj j gs =>
      have h : (if k = j then objT G (Tk.call G n) k fs gs else none) = some b := h
      by_cases hk : k = j
      · subst hk
        rw [if_pos rfl] at h
        unfold objT at h
        cases q1 : G.eqOf (.obj k fs) with
        | none => rw [q1] at h; cases h
        | some f =>
          rw [q1] at h
          dsimp only at h
          cases q2 : G.defs[f]? with
          | none => rw [q2] at h; cases h
          | some dd =>
            rw [q2] at h
            dsimp only at h
            by_cases hc : dd.np = 2 ∧ fs.all isIntD = true ∧ gs.all isIntD = true ∧ fs.length = gs.length
            · rw [if_pos hc] at h
              obtain ⟨hnp, i1, i2, _⟩ := hc
              have hcall : Tk.call G n f [.obj k fs, .obj k gs] [] = .ok (.bl b) [] ∧ (eqBs fs gs = true → b = true) := by
                unfold objR at h
                split at h
                · rename_i r q
                  by_cases hz : (eqBs fs gs && !r) = true
                  · rw [if_pos hz] at h; cases h
                  · rw [if_neg hz] at h
                    cases h
                    refine ⟨q, fun w => ?_⟩
                    rw [w, Bool.true_and] at hz
                    simpa using hz
                · cases h
              obtain ⟨hcall, hsame⟩ := hcall
              obtain ⟨_, _, cc, hd, hcc, heq⟩ := eqOf_obj q1
              cases hd
              obtain ⟨hk, dd', hdd', hcl, hnm⟩ := C.wf.eq k cc f hcc heq
              rw [q2] at hdd'
              cases hdd'
              obtain ⟨fa, fd, ps, F, hb, hp, hkp, _, hm⟩ := C.calls f dd q2
              obtain ⟨M, _⟩ := hm k hcl
              rw [hnm, C.K] at M
              rw [C.K] at hb
              rw [Rep] at hx; rw [Rep] at hy
              obtain ⟨a1, dx1, vs, z1, z2, z3, z4⟩ := hx
              obtain ⟨a2, dx2, ws, y1, y2, y3, y4⟩ := hy
              let Rr : Addr → Addr → Bool → Hp → Prop := fun a1 a2 b H => ∃ fs gs dx1 dx2 vs ws, H a1 = some (.ins (g.ca k) dx1 ((g.cf k).zip vs)) ∧ H a2 = some (.ins (g.ca k) dx2 ((g.cf k).zip ws)) ∧ vs.length = (g.cf k).length ∧ ws.length = (g.cf k).length ∧
                fs.all isIntD = true ∧ gs.all isIntD = true ∧ Reps g ⟨[], [], none⟩ H fs vs ∧ Reps g ⟨[], [], none⟩ H gs ws ∧ Tk.call G n f [.obj k fs, .obj k gs] [] = .ok (.bl b) []
              have F' : FnOk X.prog X.w X.K X.mg X.base (L2.CX X.prog X.w) (lv n) fa fd ps (spEqR Rr) := by
                rw [← C.K]
                refine F.imp fun vs0 H0 Q0 E0 hs => ?_
                obtain ⟨p1, p2, b0, rfl, ⟨fs0, gs0, d1, d2, vs1, ws1, w1, w2, w3, w4, w5, w6, w7, w8, w9⟩, hq⟩ := hs
                refine ⟨by rw [hnp]; rfl, ⟨[], [], none⟩, [], [.obj k fs0, .obj k gs0], rfl, ⟨List.nodup_nil, rfl, fun a z => (by cases z), fun i ce a z => (by simp at z)⟩, ?_, ?_⟩
                · rw [Reps]
                  refine ⟨.ref p1, [.ref p2], rfl, ?_, ?_⟩
                  · rw [Rep]
                    exact ⟨p1, d1, vs1, rfl, ⟨w1, by simp, by simp⟩, w3, w7⟩
                  · rw [Reps]
                    refine ⟨.ref p2, [], rfl, ?_, by rw [Reps]⟩
                    rw [Rep]
                    exact ⟨p2, d2, ws1, rfl, ⟨w2, by simp, by simp⟩, w4, w8⟩
                · rw [w9]
                  intro v1 H1 c1 q
                  have ev : v1 = .bl b0 := bl_of q.r
                  subst ev
                  exact hq H1 fun p o hpo => (q.e.keep p o hpo (by simp)).1
              have ps0 : Passes (L2.CX X.prog X.w) X (fun _ _ _ => False) := passes_call C.tk (fun _ _ _ _ z => z.elim)
              subst z1 y1
              refine eqR_ins F' M.at_ M.fn hb ps0 A pins s σ H (.ref a1) (.ref a2) b u v sb I rx ry ⟨a1, a2, dx1, dx2, _, _, rfl, rfl, z2.1, y2.1, ⟨fs, gs, dx1, dx2, vs, ws, z2.1, y2.1, z3, y3, i1, i2, ints_bare i1 z4, ints_bare i2 y4, hcall⟩, fun e => ?_⟩
              subst e
              have w := y2.1
              rw [z2.1] at w
              injection w with w
              injection w with _ _ w
              exact hsame (ints_rep i1 z4 i2 y4 (zip_inj z3 y3 w))
            · rw [if_neg hc] at h; cases h
      · rw [if_neg hk] at h; cases h
    | _ => exact plain h
  | _ => exact plain h

theorem eqV_refl : ∀ v : V, flatV v = true → eqV v v = true := by
  intro v h
  cases v <;> first | rfl | (cases h; done) | exact beq_self_eq_true _
/-- no value is unlike itself -/
theorem item_irr {d e : D} {x : V} (hx : Rep g c H d x) (hy : Rep g c' H e x) (h : itemT G (Tk.call G n) d e = some false) : False := by
  have plain : (if flat d && flat e then some (eqB d e) else none) = some false → False := by
    intro h
    by_cases hf : (flat d && flat e) = true
    · rw [if_pos hf] at h
      rw [Bool.and_eq_true] at hf
      have e1 := flat_v (rep_T0 hx hf.1) hf.1
      have e2 := flat_v (rep_T0 hy hf.2) hf.2
      have e3 := Option.some.inj h
      have : eqB d e = true := by
        rw [e1] at e2
        cases d <;> (try (cases hf.1; done)) <;> cases e <;> (try (cases hf.2; done)) <;> (try (cases e2; done)) <;> first | rfl | (cases e2; exact beq_self_eq_true _)
      rw [this] at e3; cases e3
    · rw [if_neg hf] at h; cases h
  cases d with
  | obj k fs =>
    cases e with
    | obj j gs =>
      have h : (if k = j then objT G (Tk.call G n) k fs gs else none) = some false := h
      by_cases hk : k = j
      · subst hk
        rw [if_pos rfl] at h
        unfold objT at h
        split at h
        · split at h
          · split at h
            · rename_i hc
              obtain ⟨_, i1, i2, _⟩ := hc
              unfold objR at h
              split at h
              · rename_i r q
                by_cases hz : (eqBs fs gs && !r) = true
                · rw [if_pos hz] at h; cases h
                · rw [if_neg hz] at h
                  cases h
                  rw [Rep] at hx; rw [Rep] at hy
                  obtain ⟨a1, dx1, vs, z1, z2, z3, z4⟩ := hx
                  obtain ⟨a2, dx2, ws, y1, y2, y3, y4⟩ := hy
                  rw [z1] at y1
                  cases y1
                  have w := y2.1
                  rw [z2.1] at w
                  injection w with w
                  injection w with _ _ w
                  rw [ints_rep i1 z4 i2 y4 (zip_inj z3 y3 w)] at hz
                  exact hz rfl
              · cases h
            · cases h
          · cases h
        · cases h
      · rw [if_neg hk] at h; cases h
    | _ => exact plain h
  | _ => exact plain h
theorem prs_of {m : Nat} : ∀ {xs ys : List D} {vs ws : List V} {b : Bool}, Reps g c H xs vs → Reps g c' H ys ws → allT (eqT G (Tk.call G n) m) xs ys = some b → PrsR (DD G g n m) H vs ws b
  | [], [], vs, ws, b, hx, hy, h => by
    rw [Reps] at hx; rw [Reps] at hy
    subst hx hy
    cases h
    exact .nil
  | x :: xs, y :: ys, vs, ws, b, hx, hy, h => by
    rw [Reps] at hx; rw [Reps] at hy
    obtain ⟨v, r, rfl, h2, h3⟩ := hx
    obtain ⟨w, t, rfl, k2, k3⟩ := hy
    unfold allT at h
    cases q : eqT G (Tk.call G n) m x y with
    | none => rw [q] at h; cases h
    | some z =>
      rw [q] at h
      have mk : ∀ z, eqT G (Tk.call G n) m x y = some z → DD G g n m v w z H := fun z q => ⟨c, c', x, y, h2, k2, q⟩
      cases z with
      | true => exact .yes (mk _ q) (prs_of h3 k3 h)
      | false =>
        dsimp only at h
        by_cases hl : xs.length = ys.length
        · rw [if_pos hl] at h
          cases h
          exact .no (mk _ q) (by rw [h3.length, k3.length, hl])
        · rw [if_neg hl] at h; cases h
  | [], _ :: _, _, _, _, _, _, h => by cases h
  | _ :: _, [], _, _, _, _, _, h => by cases h

theorem eqT_item {m : Nat} {d e : D} {cl : Cl} (h1 : ∀ xs ys, ¬ (d = .tup xs ∧ e = .tup ys)) (h2 : ∀ xs ys, ¬ (d = .lst xs ∧ e = .lst ys)) : eqT G cl m d e = itemT G cl d e := by
  cases m with
  | zero => cases d <;> rfl
  | succ m =>
    cases d with
    | tup xs => cases e <;> first | rfl | exact absurd ⟨rfl, rfl⟩ (h1 _ _)
    | lst xs => cases e <;> first | rfl | exact absurd ⟨rfl, rfl⟩ (h2 _ _)
    | _ => rfl
theorem sq_tup {K : PySem.W.Frag} {a : Addr} {vs : List V} (h : Fx c H a (.tup vs) ∨ KTup K a vs) : SqT K H a vs := h.elim (fun h => .inl (.inl h.1)) .inr
theorem dd_irr (C : Cok G g n true su X W) : ∀ m, IrrI X (DD G g n m) := by
  intro m
  induction m with
  | zero =>
    rintro pins s σ H x I ⟨c, c', d, e, h1, h2, h3⟩
    have : eqT G (Tk.call G n) 0 d e = itemT G (Tk.call G n) d e := by cases d <;> rfl
    rw [this] at h3
    exact item_irr h1 h2 h3
  | succ m ih =>
    rintro pins s σ H x I ⟨c, c', d, e, h1, h2, h3⟩
    by_cases ht : ∃ xs ys, d = .tup xs ∧ e = .tup ys
    · obtain ⟨xs, ys, rfl, rfl⟩ := ht
      have h3 : allT (eqT G (Tk.call G n) m) xs ys = some false := h3
      rw [Rep] at h1; rw [Rep] at h2
      obtain ⟨a, vs, rfl, t1, r1⟩ := h1
      obtain ⟨a', ws, e1, t2, r2⟩ := h2
      cases e1
      rw [C.K] at t1 t2
      have e2 := I.tuple_inj (sq_tup t1) (sq_tup t2)
      subst e2
      exact PrsR.irr ih I (prs_of r1 r2 h3)
    · by_cases hl : ∃ xs ys, d = .lst xs ∧ e = .lst ys
      · obtain ⟨xs, ys, rfl, rfl⟩ := hl
        have h3 : lstT (allT (eqT G (Tk.call G n) m) xs ys) = some false := h3
        unfold lstT at h3
        split at h3 <;> cases h3
      · rw [eqT_item (fun xs ys z => ht ⟨xs, ys, z⟩) (fun xs ys z => hl ⟨xs, ys, z⟩)] at h3
        exact item_irr h1 h2 h3
theorem prs_true {D : Eqr} {vs ws : List V} : ∀ {b : Bool}, PrsR D H vs ws b → b = true → L2.Prs (fun x y H => D x y true H) vs ws H := by
  intro b p
  induction p with
  | nil => intro _; exact L2.Prs.nil
  | yes h _ ih => intro e; exact L2.Prs.cons h (ih e)
  | no _ _ => intro e; cases e
theorem dd_ok (C : Cok G g n true su X W) : ∀ m, EqR X (lv n + m) (DD G g n m) := by
  intro m
  induction m with
  | zero =>
    rintro A pins s σ H x y b u v sb I rx ry ⟨c, c', d, e, h1, h2, h3⟩
    have : eqT G (Tk.call G n) 0 d e = itemT G (Tk.call G n) d e := by cases d <;> rfl
    rw [this] at h3
    exact item_ok C sb I rx ry h1 h2 h3
  | succ m ih =>
    rintro A pins s σ H x y b u v sb I rx ry ⟨c, c', d, e, h1, h2, h3⟩
    by_cases ht : ∃ xs ys, d = .tup xs ∧ e = .tup ys
    · obtain ⟨xs, ys, rfl, rfl⟩ := ht
      have h3 : allT (eqT G (Tk.call G n) m) xs ys = some b := h3
      rw [Rep] at h1; rw [Rep] at h2
      obtain ⟨a, vs, rfl, t1, r1⟩ := h1
      obtain ⟨a', ws, rfl, t2, r2⟩ := h2
      rw [C.K] at t1 t2
      refine (rcR_tup dd_mon ih).eqR ?_ ?_ A pins s σ H (.ref a) (.ref a') b u v sb I rx ry ⟨a, a', vs, ws, rfl, rfl, sq_tup t1, sq_tup t2, prs_of r1 r2 h3⟩
      · rintro pins s σ H x I ⟨p, q, xs, ys, e1, e2, s1, s2, z⟩
        rw [e1] at e2
        cases e2
        have e3 := I.tuple_inj s1 s2
        subst e3
        exact PrsR.irr (dd_irr C m) I z
      · rintro x y b H ⟨p, q, xs, ys, e1, e2, _⟩
        exact ⟨p, q, e1, e2⟩
    · by_cases hl : ∃ xs ys, d = .lst xs ∧ e = .lst ys
      · obtain ⟨xs, ys, rfl, rfl⟩ := hl
        have h3 : lstT (allT (eqT G (Tk.call G n) m) xs ys) = some b := h3
        have h4 : allT (eqT G (Tk.call G n) m) xs ys = some true ∧ b = true := by
          unfold lstT at h3
          split at h3
          · rename_i q; cases h3; exact ⟨q, rfl⟩
          · cases h3
        obtain ⟨h4, rfl⟩ := h4
        rw [Rep] at h1; rw [Rep] at h2
        obtain ⟨a, vs, rfl, t1, r1⟩ := h1
        obtain ⟨a', ws, rfl, t2, r2⟩ := h2
        have hg : L2.EqG X (lv n + m) (fun x y H => DD G g n m x y true H) := fun A pins s σ H x y u v sb I rx ry d => ih A pins s σ H x y true u v sb I rx ry d
        exact (L2.eqG_list (fun x y H H' e d => dd_mon x y true H H' e d) hg) A pins s σ H (.ref a) (.ref a') u v sb I rx ry ⟨a, a', vs, ws, rfl, rfl, t1.1, t2.1, prs_true (prs_of r1 r2 h4) rfl⟩
      · rw [eqT_item (fun xs ys z => ht ⟨xs, ys, z⟩) (fun xs ys z => hl ⟨xs, ys, z⟩)] at h3
        exact item_ok C (sb.mono (Nat.le_add_right _ _)) I rx ry h1 h2 h3

def cmB1 : Cm → CmpOp
  | .eq => .Eq | .ne => .NotEq | .lt => .Lt | .le => .LtE | .gt => .Gt | .ge => .GtE | .isn => .Is | .notn => .IsNot | .isb _ => .Is | .isnb _ => .IsNot | .eq0 => .Eq | .eqn => .Eq | .isin => .In | .notin => .NotIn
/-- what the right side must be -/
def rightD : Cm → D → Prop
  | .isn, e => e = .non
  | .notn, e => e = .non
  | .isb b, e => e = .bl b
  | .isnb b, e => e = .bl b
  | _, _ => True
def rCmp (G : Prog) (g : Wd) (su : Su) (W : WX) (n : Nat) (op : Cm) : L2.St → R2 := fun σ x y H Q =>
  ∃ c S d e, c.su = su ∧ RelS g c H S ∧ RepT g c H d x ∧ RepT g c H e y ∧ rightD op e ∧ Post g c H (fun cls dx H' => W cls dx σ H') Q (cmpD G (Tk.call G n) op d e S)
theorem cmpOk_of {e : D} (h : cmpOk G S e = true) : noExn e = true ∧ (∀ j fs, e = .obj j fs → G.cls? j = true) ∧ ∀ k, e = .loc k → ∃ xs, S[k]? = some (.lst xs) := by
  refine ⟨?_, fun j fs z => ?_, fun k z => ?_⟩
  · cases e <;> first | rfl | cases h
  · subst z; exact h
  · subst z
    have h' : (seqOf S (.loc k)).isSome = true := h
    unfold seqOf at h'
    cases q : S[k]? with
    | none => simp [q] at h'
    | some ce =>
      cases ce with
      | lst xs => exact ⟨xs, rfl⟩
      | ins _ _ => simp [q] at h'
theorem sh60 {d : D} (h : dat d 60 = true) : SeqAt.shaped (py d) = true := by
  obtain ⟨h1, h2⟩ := dat_ok d 60 h
  unfold SeqAt.shaped
  rw [h1, Bool.true_and]
  exact decide_eq_true (by omega)
theorem opr_eq (C : Cok G g n true su X W) : OpRs X (compareOp .Eq) (rCmp G g su W n .eq) := by
  intro pins s σ H x y v u Q I rx ry h
  obtain ⟨c, S, d, e, hsu, r, hx, hy, hR, h⟩ := h
  obtain ⟨h1, h2, h3⟩ := C.cm rfl
  have hK := C.K
  have hu64 : X.A.units + 64 < cLine := by have := h2.un; omega
  have data : Post g c H (fun cls dx H' => W cls dx σ H') Q (if dat (rd S d) 60 && dat (rd S e) 60 then .ok (.bl (eqB (rd S d) (rd S e))) S else .bad) → wpAny (model X.prog X.w) X.A (compareOp .Eq v u) (EP X pins σ Q) X.xe s := by
    intro h'
    by_cases hd : (dat (rd S d) 60 && dat (rd S e) 60) = true
    · simp only [hd, if_true] at h'
      rw [Bool.and_eq_true] at hd
      refine op_eqD hu64 pins s σ H x y v u Q I rx ry ⟨_, _, dp_rd hK r hx hd.1, dp_rd hK r hy hd.2, sh60 hd.1, sh60 hd.2, ?_⟩
      rw [eqv_eq _ _ 60 hd.1 hd.2]
      exact Post.bl r h'
    · simp only [hd] at h'; exact h'.elim
  unfold cmpD eqD at h
  dsimp only at h
  cases q1 : G.eqOf d with
  | some f =>
    rw [q1] at h
    dsimp only at h
    by_cases hc : cmpOk G S e = true
    · simp only [hc, if_true] at h
      obtain ⟨n1, n2, n3⟩ := cmpOk_of hc
      cases q2 : fzs [d, e] with
      | none => rw [q2] at h; exact h.elim
      | some ds => rw [q2] at h; exact eq_left C I rx ry hsu r hx hy q1 n1 n2 n3 q2 h
    · simp only [hc] at h; exact h.elim
  | none =>
    rw [q1] at h
    dsimp only at h
    cases q2 : G.eqOf e with
    | some f =>
      rw [q2] at h
      dsimp only at h
      by_cases hc : leftOk d = true
      · simp only [hc, if_true] at h
        cases q3 : fzs [e, d] with
        | none => rw [q3] at h; exact h.elim
        | some ds => rw [q3] at h; exact eq_right C I rx ry hsu r hx hy q2 hc q3 h
      · simp only [hc] at h; exact h.elim
    | none =>
      rw [q2] at h
      dsimp only at h
      by_cases hd0 : d = .dic0 ∧ e = .dic0
      · obtain ⟨rfl, rfl⟩ := hd0
        change Rep g c H _ x at hx; rw [Rep] at hx
        change Rep g c H _ y at hy; rw [Rep] at hy
        obtain ⟨a, e1, e2⟩ := hx
        obtain ⟨b, e3, e4⟩ := hy
        refine op_eq_dict h2.units0 pins s σ H x y v u Q I rx ry ⟨a, b, [], e1, e3, e2.1, e4.1, List.nodup_nil, (fun p hp => by cases hp), Post.bl r h⟩
      · refine data ?_
        cases d <;> first | exact h | (cases e <;> first | exact h | exact absurd ⟨rfl, rfl⟩ hd0)
theorem opr_cmp (C : Cok G g n true su X W) (op : Cm) : OpRs X (compareOp (cmB1 op)) (rCmp G g su W n op) := by
  intro pins s σ H x y v u Q I rx ry h
  obtain ⟨c, S, d, e, hsu, r, hx, hy, hR, h⟩ := h
  obtain ⟨h1, h2, h3⟩ := C.cm rfl
  have hK := C.K
  have hu64 : X.A.units + 64 < cLine := by have := h2.un; omega
  have cmpI2 : ∀ (f : CmpOp) (q : Int → Int → Bool), OpR X (compareOp f) (rI0 fun i j => .bl (q i j)) → ∀ {WW : WH}, Post g c H WW Q (match d, e with
      | .int i, .int j => .ok (.bl (q i j)) S
      | _, _ => .bad) → wpAny (model X.prog X.w) X.A (compareOp f v u) (EP X pins σ Q) X.xe s := by
    intro f q ho WW h
    cases d with
    | int i =>
      cases e with
      | int j => exact ho pins s σ H x y v u Q I rx ry ⟨i, j, int_of hx, int_of hy, h.bl r⟩
      | _ => exact h.elim
    | _ => exact h.elim
  have mem : ∀ (neg : Bool) (f : CmpOp), OpR X (compareOp f) (rIn X.K neg) → ∀ {WW : WH}, Post g c H WW Q (match seqOf S e with
      | some ys => if flat d && ys.all flat then .ok (.bl (if neg then !ys.any fun z => eqB z d else ys.any fun z => eqB z d)) S else .bad
      | none => .bad) → wpAny (model X.prog X.w) X.A (compareOp f v u) (EP X pins σ Q) X.xe s := by
    intro neg f ho WW h
    cases q : seqOf S e with
    | none => rw [q] at h; exact h.elim
    | some ys =>
      rw [q] at h
      obtain ⟨a, vs, e1, e2, e3, _⟩ := seq_at hK r hy q
      by_cases hf : (flat d && ys.all flat) = true
      · simp only [hf, if_true] at h
        rw [Bool.and_eq_true] at hf
        obtain ⟨i1, i2⟩ := inV_any e3 hx hf.1 hf.2
        refine ho pins s σ H x y v u Q I rx ry ⟨a, vs, e1, e2, ?_, i1, ?_⟩
        · rw [flat_v hx hf.1]; cases d <;> first | rfl | cases hf.1
        · rw [i2]; exact h.bl r
      · simp only [hf] at h; exact h.elim
  cases op with
  | lt => exact cmpI2 .Lt (fun i j => decide (i < j)) op_lt (by cases d <;> cases e <;> exact h)
  | le => exact cmpI2 .LtE (fun i j => decide (i ≤ j)) op_le (by cases d <;> cases e <;> exact h)
  | gt => exact cmpI2 .Gt (fun i j => decide (j < i)) op_gt (by cases d <;> cases e <;> exact h)
  | ge => exact cmpI2 .GtE (fun i j => decide (j ≤ i)) op_ge (by cases d <;> cases e <;> exact h)
  | isin => exact mem false .In op_in_seq h
  | notin => exact mem true .NotIn op_notIn_seq h
  | isn =>
    have he : e = .non := hR
    subst he
    have hq : Q (.bl (decide (x = .non))) H := by
      by_cases z : d = .non
      · subst z; rw [non_of hx]; exact Post.bl r h
      · have hv := ne_non hx z
        have : decide (x = V.non) = false := decide_eq_false hv
        rw [this]
        cases d with
        | non => exact absurd rfl z
        | exn k fs => exact h.elim
        | _ => exact Post.bl r h
    exact op_isN pins s σ H x y v u Q I rx ry ⟨non_of hy, hq⟩
  | notn =>
    have he : e = .non := hR
    subst he
    have hq : Q (.bl (!decide (x = .non))) H := by
      by_cases z : d = .non
      · subst z; rw [non_of hx]; exact Post.bl r h
      · have hv := ne_non hx z
        have : decide (x = V.non) = false := decide_eq_false hv
        rw [this]
        cases d with
        | non => exact absurd rfl z
        | exn k fs => exact h.elim
        | _ => exact Post.bl r h
    exact op_notN pins s σ H x y v u Q I rx ry ⟨non_of hy, hq⟩
  | isb b =>
    have he : e = .bl b := hR
    subst he
    cases d with
    | bl q =>
      refine op_isBl pins s σ H x y v u Q I rx ry ⟨q, b, bl_of hx, bl_of hy, ?_⟩
      have : decide (q = b) = (q == b) := by cases q <;> cases b <;> rfl
      rw [this]
      exact Post.bl r h
    | _ => exact h.elim
  | isnb b =>
    have he : e = .bl b := hR
    subst he
    cases d with
    | bl q =>
      refine op_notBl pins s σ H x y v u Q I rx ry ⟨q, b, bl_of hx, bl_of hy, ?_⟩
      have : (!decide (q = b)) = (!(q == b)) := by cases q <;> cases b <;> rfl
      rw [this]
      exact Post.bl r h
    | _ => exact h.elim
  | eqn =>
    by_cases ht : ∃ xs ys, d = .tup xs ∧ e = .tup ys
    · obtain ⟨xs, ys, rfl, rfl⟩ := ht
      have h : Post g c H (fun cls dx H' => W cls dx σ H') Q (eqnR S (allT (eqT G (Tk.call G n) 2) xs ys)) := h
      cases q : allT (eqT G (Tk.call G n) 2) xs ys with
      | none => rw [q] at h; exact h.elim
      | some b =>
        rw [q] at h
        have h : Post g c H (fun cls dx H' => W cls dx σ H') Q (.ok (.bl b) S) := h
        have hx' : Rep g c H (.tup xs) x := hx
        have hy' : Rep g c H (.tup ys) y := hy
        rw [Rep] at hx' hy'
        obtain ⟨a1, vs, e1, t1, r1⟩ := hx'
        obtain ⟨a2, ws, e2, t2, r2⟩ := hy'
        rw [hK] at t1 t2
        show wpAny (model X.prog X.w) X.A (richCompare .Eq v u) (EP X pins σ Q) X.xe s
        refine wpAny_mono (rcR_tup dd_mon (dd_ok C 2) X.A pins s σ H x y b v u ⟨h2, rfl⟩ I rx ry ⟨a1, a2, vs, ws, e1, e2, sq_tup t1, sq_tup t2, prs_of r1 r2 q⟩) (fun r0 s' z => ?_) fun _ _ z => z
        obtain ⟨z1, H', I', ex⟩ := z
        subst z1
        exact ⟨.bl b, H', I', rfl, h (.bl b) H' c (Got.of (ext_e ex) (by show Rep g _ _ _ _; rw [Rep]) (r.ext ex) (by intro _ z; cases z))⟩
    · by_cases hl : ∃ xs ys, d = .lst xs ∧ e = .lst ys
      · obtain ⟨xs, ys, rfl, rfl⟩ := hl
        have h : Post g c H (fun cls dx H' => W cls dx σ H') Q (eqnR S (lstT (allT (eqT G (Tk.call G n) 2) xs ys))) := h
        cases q : allT (eqT G (Tk.call G n) 2) xs ys with
        | none => rw [q] at h; exact h.elim
        | some b =>
          cases b with
          | false => rw [q] at h; exact h.elim
          | true =>
            rw [q] at h
            have h : Post g c H (fun cls dx H' => W cls dx σ H') Q (.ok (.bl true) S) := h
            have hx' : Rep g c H (.lst xs) x := hx
            have hy' : Rep g c H (.lst ys) y := hy
            rw [Rep] at hx' hy'
            obtain ⟨a1, vs, e1, t1, r1⟩ := hx'
            obtain ⟨a2, ws, e2, t2, r2⟩ := hy'
            have hg : L2.EqG X (lv n + 2) (fun x y H => DD G g n 2 x y true H) := fun A pins s σ H x y u v sb I rx ry d => dd_ok C 2 A pins s σ H x y true u v sb I rx ry d
            show wpAny (model X.prog X.w) X.A (richCompare .Eq v u) (EP X pins σ Q) X.xe s
            refine wpAny_mono (L2.rcG_list (fun x y H H' e d => dd_mon x y true H H' e d) hg X.A pins s σ H x y v u ⟨h2, rfl⟩ I rx ry ⟨a1, a2, vs, ws, e1, e2, t1.1, t2.1, prs_true (prs_of r1 r2 q) rfl⟩) (fun r0 s' z => ?_) fun _ _ z => z
            obtain ⟨z1, H', I', ex⟩ := z
            subst z1
            exact ⟨.bl true, H', I', rfl, h (.bl true) H' c (Got.of (ext_e ex) (by show Rep g _ _ _ _; rw [Rep]) (r.ext ex) (by intro _ z; cases z))⟩
      · by_cases hn : ∃ xs ys, d = .lst xs ∧ e = .new ys
        · obtain ⟨xs, ys, rfl, rfl⟩ := hn
          have h : Post g c H (fun cls dx H' => W cls dx σ H') Q (eqnR S (lstT (allT (eqT G (Tk.call G n) 2) xs ys))) := h
          cases q : allT (eqT G (Tk.call G n) 2) xs ys with
          | none => rw [q] at h; exact h.elim
          | some b =>
            cases b with
            | false => rw [q] at h; exact h.elim
            | true =>
              rw [q] at h
              have h : Post g c H (fun cls dx H' => W cls dx σ H') Q (.ok (.bl true) S) := h
              have hx' : Rep g c H (.lst xs) x := hx
              have hy' : ∃ a2 ws, y = .ref a2 ∧ Fx c H a2 (.lst ws) ∧ Reps g c H ys ws := hy
              rw [Rep] at hx'
              obtain ⟨a1, vs, e1, t1, r1⟩ := hx'
              obtain ⟨a2, ws, e2, t2, r2⟩ := hy'
              have hg : L2.EqG X (lv n + 2) (fun x y H => DD G g n 2 x y true H) := fun A pins s σ H x y u v sb I rx ry d => dd_ok C 2 A pins s σ H x y true u v sb I rx ry d
              show wpAny (model X.prog X.w) X.A (richCompare .Eq v u) (EP X pins σ Q) X.xe s
              refine wpAny_mono (L2.rcG_list (fun x y H H' e d => dd_mon x y true H H' e d) hg X.A pins s σ H x y v u ⟨h2, rfl⟩ I rx ry ⟨a1, a2, vs, ws, e1, e2, t1.1, t2.1, prs_true (prs_of r1 r2 q) rfl⟩) (fun r0 s' z => ?_) fun _ _ z => z
              obtain ⟨z1, H', I', ex⟩ := z
              subst z1
              exact ⟨.bl true, H', I', rfl, h (.bl true) H' c (Got.of (ext_e ex) (by show Rep g _ _ _ _; rw [Rep]) (r.ext ex) (by intro _ z; cases z))⟩
        · refine opr_eq C pins s σ H x y v u Q I rx ry ⟨c, S, d, e, hsu, r, hx, hy, trivial, ?_⟩
          show Post g c H (fun cls dx H' => W cls dx σ H') Q (eqD G (Tk.call G n) d e S)
          cases d with
          | tup xs => cases e <;> first | exact h | exact absurd ⟨_, _, rfl, rfl⟩ ht
          | lst xs => cases e <;> first | exact h | exact absurd ⟨_, _, rfl, rfl⟩ hl | exact absurd ⟨_, _, rfl, rfl⟩ hn
          | _ => exact h
  | eq0 =>
    cases d with
    | tup xs =>
      cases e with
      | tup ys =>
        cases ys with
        | cons y0 ys => exact h.elim
        | nil =>
          obtain ⟨a, vs, e1, e2, e3, e4, _⟩ := seq_at hK r hx (xs := xs) rfl
          obtain ⟨b, ws, f1, f2, f3, f4, _⟩ := seq_at hK r hy (xs := []) rfl
          subst e1 f1
          cases rx
          cases ry
          obtain ⟨its, g1, g2, _⟩ := I.tuple (e4 _ rfl)
          obtain ⟨its2, k1, k2, _⟩ := I.tuple (f4 _ rfl)
          have l1 : xs.length = its.length := by rw [← g1.length, e3.length]
          have l2 : its2.length = 0 := by rw [← k1.length, f3.length]; rfl
          have q : Q (.bl xs.isEmpty) H := Post.bl r h
          have eb : ((List.range (min its.toArray.size its2.toArray.size)).all (fun _ => true) && its.toArray.size == its2.toArray.size) = xs.isEmpty := by
            rw [List.size_toArray, List.size_toArray, l2, Nat.min_zero, ← l1]
            cases xs <;> rfl
          refine SeqAt.eq_tupleAt (e := fun _ => true) g2 k2 h2.units0 (fun j h1 h2 => ?_) ?_
          · exfalso
            rw [List.size_toArray, l2] at h2
            exact Nat.not_lt_zero _ h2
          · rw [eb]
            exact ⟨.bl xs.isEmpty, H, I, rfl, q⟩
      | _ => exact h.elim
    | _ => exact h.elim
  | ne =>
    by_cases hd0 : d = .dic0 ∧ e = .dic0
    · obtain ⟨rfl, rfl⟩ := hd0
      change Rep g c H _ x at hx; rw [Rep] at hx
      change Rep g c H _ y at hy; rw [Rep] at hy
      obtain ⟨a, e1, e2⟩ := hx
      obtain ⟨b, e3, e4⟩ := hy
      exact op_ne_dictA h2.units0 pins s σ H x y v u Q I rx ry ⟨a, b, [], [], e1, e3, e2.1, e4.1, rfl, (fun p hp => by cases hp), Post.bl r h⟩
    have h' : Post g c H (fun cls dx H' => W cls dx σ H') Q (if dat (rd S d) 60 && dat (rd S e) 60 then .ok (.bl (!eqB (rd S d) (rd S e))) S else .bad) := by
      cases d <;> first | exact h | (cases e <;> first | exact h | exact absurd ⟨rfl, rfl⟩ hd0)
    by_cases hd : (dat (rd S d) 60 && dat (rd S e) 60) = true
    · simp only [hd, if_true] at h'
      rw [Bool.and_eq_true] at hd
      refine op_neD hu64 pins s σ H x y v u Q I rx ry ⟨_, _, dp_rd hK r hx hd.1, dp_rd hK r hy hd.2, sh60 hd.1, sh60 hd.2, ?_⟩
      rw [eqv_eq _ _ 60 hd.1 hd.2]
      exact Post.bl r h'
    · simp only [hd] at h'; exact h'.elim
  | eq => exact opr_eq C pins s σ H x y v u Q I rx ry ⟨c, S, d, e, hsu, r, hx, hy, trivial, h⟩
end
end Tk
/-! Core 10: expressions, one construct at a time. -/
namespace Tk
open PySem PySem.Spec PyProof.Rows L2

section
variable {G : Prog} {g : Wd} {n : Nat} {cm : Bool} {su : Su} {X : Cx} {W : WX} {c c' : Ct} {H H' : Hp} {S S' : Sto} {ρ : Ev} {o : List (Nat × Addr)} {σ : L2.St} {Q : VK} {ea eb ev : Ev → Sto → R D} {a b e x1 : Expr} {pos : Pos}
/-- what has come of one operand -/
def One (g : Wd) (su : Su) (W : WX) (σ : L2.St) (k : D → Sto → R D) (Q : VK) (x : V) (H : Hp) : Prop :=
  ∃ c S d, c.su = su ∧ RelS g c H S ∧ RepT g c H d x ∧ Post g c H (fun cls dx H' => W cls dx σ H') Q (k d S)
theorem LT.one {k : D → Sto → R D} (h : LT g su W (fun ρ S => (ea ρ S).bind k) σ H Q) : LT g su W ea σ H (One g su W σ k Q) := by
  obtain ⟨c, S, ρ, o, at_, h⟩ := h.open
  exact LT.mk at_ (Post.bind h fun d S1 v H1 c1 _ q1 h1 => ⟨c1, S1, d, q1.e.su.trans at_.su, q1.s, q1.r, h1⟩)
theorem LT.eq {ev ev' : Ev → Sto → R D} (h : ∀ ρ S, ev ρ S = ev' ρ S) : LT g su W ev = LT g su W ev' := by
  have : ev = ev' := funext fun ρ => funext fun S => h ρ S
  rw [this]

theorem s_neg (C : Cok G g n true su X W) {ce : CE} (ha : PE X a (LT g su W (evE G (Tk.call G n) ce))) : PE X (.UnaryOp .USub a pos) (LT g su W (evE G (Tk.call G n) (.neg ce))) := by
  rw [LT.eq (ev' := fun ρ S => (evE G (Tk.call G n) ce ρ S).bind (kNeg G (Tk.call G n))) fun ρ S => by rw [evE]]
  refine ⟨fun pins s σ H Q I h => UnaryOp_ (thn (ha.run pins s σ H _ I h.one) fun v s1 ⟨x, H1, I1, r1, c, S, d, hsu, r, hx, h⟩ => ?_)⟩
  cases d with
  | int i => exact un_neg pins s1 σ H1 x v Q I1 r1 ⟨i, int_of hx, h.int r⟩
  | obj k fs =>
    have h' : Post g c H1 (fun cls dx H' => W cls dx σ H') Q (match (G.clss[k]?).bind (·.neg) with
      | some f => Tk.call G n f [.obj k fs] S
      | none => .bad) := h
    cases q : G.clss[k]? with
    | none => rw [q] at h'; exact h'.elim
    | some cc =>
      rw [q] at h'
      cases q2 : cc.neg with
      | none => simp only [Option.bind, q2] at h'; exact h'.elim
      | some f =>
        simp only [Option.bind, q2] at h'
        obtain ⟨hk, dd, hdd, hcl, hnm⟩ := C.wf.neg k cc f q q2
        obtain ⟨p, fd, ps, F, hb, hp, hkp, _, hm⟩ := C.calls f dd hdd
        obtain ⟨M, _⟩ := hm k hcl
        rw [hnm, C.K] at M
        obtain ⟨p', dx, vs, hxr, hfx, hvl, hvs⟩ := obj_of hx
        subst hxr
        cases r1
        obtain ⟨mA, J, _⟩ := ins_get I1.hok hfx.1
        obtain ⟨od, J, _⟩ := J.look
        obtain ⟨m, hF⟩ := I1.fr
        refine PySem.W.ksp_neg hF I1.ok.mod.kin J M.at_ M.fn ?_
        exact own_call C hdd F hb hp I1 (show Vals [V.ref p'] [Value.ref p'] from .cons rfl .nil) hsu r (Reps.cons hx Reps.nil) h'
  | _ => exact h.elim
theorem s_not (C : Cok G g n cm su X W) {ce : CE} (ha : PE X a (LT g su W (evE G (Tk.call G n) ce))) : PE X (.UnaryOp .Not a pos) (LT g su W (evE G (Tk.call G n) (.not ce))) := by
  rw [LT.eq (ev' := fun ρ S => (evE G (Tk.call G n) ce ρ S).bind kNot) fun ρ S => by rw [evE]]
  refine PE.imp (pe_notT ha) fun σ H Q h => ?_
  obtain ⟨c, S, ρ, o, at_, h⟩ := h.open
  refine LT.mk at_ (Post.bind h fun d S1 v H1 c1 _ q1 h1 => ?_)
  unfold kNot at h1
  cases q : truth S1 d with
  | none => rw [q] at h1; exact h1.elim
  | some b =>
    rw [q] at h1
    exact ⟨b, tru_at C.K q1.s q1.r q, Post.bl q1.s h1⟩
theorem opB_eq {op : Bi} {p : Operator} (h : opB op p = true) : p = toOp op := by cases op <;> cases p <;> first | rfl | cases h
theorem cmB_eq {op : Cm} {p : CmpOp} (h : cmB op p = true) : p = cmB1 op := by cases op <;> cases p <;> first | rfl | cases h
theorem s_bin (C : Cok G g n true su X W) {op : Bi} {p : Operator} {ce cf : CE} (hp : opB op p = true) (ha : PE X a (LT g su W (evE G (Tk.call G n) ce))) (hb : PE X b (LT g su W (evE G (Tk.call G n) cf))) :
    PE X (.BinOp a p b pos) (LT g su W (evE G (Tk.call G n) (.bin op ce cf))) := by
  rw [opB_eq hp]
  refine PE.imp (pe_opS (opr_bin C op) ha hb) fun σ H Q h => ?_
  obtain ⟨c, S, ρ, o, at_, h⟩ := h.open
  rw [evE] at h
  exact LT.two at_ h
/-- two operands of a comparison -/
theorem LT.twoC (C : Cok G g n cm su X W) {op : Cm} {ce cf : CE} (hr : rightB op cf = true) (at_ : At g su c H S o σ ρ) (h : Post g c H (fun cls dx H' => W cls dx σ H') Q (evE G (Tk.call G n) (.cmp op ce cf) ρ S)) :
    tOpS (rCmp G g su W n op) (LT g su W (evE G (Tk.call G n) ce)) (LT g su W (evE G (Tk.call G n) cf)) σ H Q := by
  rw [evE] at h
  refine LT.mk at_ (Post.bind h fun d S1 v H1 c1 _ q1 h1 => ?_)
  refine LT.mk (at_.go q1.e q1.s) (Post.bind h1 fun e S2 u H2 c2 hE q2 h2 => ?_)
  refine ⟨c2, S2, d, e, q2.e.su.trans (q1.e.su.trans at_.su), q2.s, q1.r.ext q2.e, q2.r, ?_, h2⟩
  cases op with
  | isn => cases cf <;> first | (rw [evE] at hE; injection hE with z _; exact z.symm) | cases hr
  | notn => cases cf <;> first | (rw [evE] at hE; injection hE with z _; exact z.symm) | cases hr
  | isb b =>
    cases cf with
    | bl q =>
      rw [evE] at hE
      injection hE with z _
      have : b = q := by simpa [rightB] using hr
      subst this
      exact z.symm
    | _ => cases hr
  | isnb b =>
    cases cf with
    | bl q =>
      rw [evE] at hE
      injection hE with z _
      have : b = q := by simpa [rightB] using hr
      subst this
      exact z.symm
    | _ => cases hr
  | _ => trivial
theorem marks_of {op : CmpOp} (h : noSet b = true) : behindInMarks op b = false := by
  cases b <;> first | rfl | cases h
theorem s_cmp (C : Cok G g n true su X W) {op : Cm} {p : CmpOp} {ce cf : CE} (hp : cmB op p = true) (hr : rightB op cf = true) (hs : noSet b = true) (ha : PE X a (LT g su W (evE G (Tk.call G n) ce))) (hb : PE X b (LT g su W (evE G (Tk.call G n) cf))) :
    PE X (.Compare a [p] [b] pos) (LT g su W (evE G (Tk.call G n) (.cmp op ce cf))) := by
  rw [cmB_eq hp]
  refine PE.imp (pe_cmpS (opr_cmp C op) ha hb (marks_of hs)) fun σ H Q h => ?_
  obtain ⟨c, S, ρ, o, at_, h⟩ := h.open
  exact LT.twoC C hr at_ h
/-- a value that is a truth -/
def Tst (Q : Bool → Hp → Prop) : VK := fun x H => ∃ k, x = .bl k ∧ Q k H
theorem PostB.open {r : R D} {Q : Bool → Hp → Prop} {WW : WH} (h : PostB g c H WW Q (r.bind kTest)) (hb : ∀ d S1, r = .ok d S1 → ∃ b, d = .bl b) : Post g c H WW (Tst Q) r := by
  cases r with
  | ok d S1 =>
    obtain ⟨b, rfl⟩ := hb d S1 rfl
    intro v H1 c1 q
    exact ⟨b, bl_of q.r, h H1 c1 q.e q.s⟩
  | err k fs S1 => exact h
  | bad => exact h
theorem cmpD_bl {op : Cm} {x y d : D} {S S1 : Sto} {cl : Cl} (h : cmpD G cl op x y S = .ok d S1) : ∃ b, d = .bl b := by
  have kb : ∀ {r : R D} {d S1}, r.bind kBl = .ok d S1 → ∃ b, d = .bl b := by
    intro r d S1 h
    cases r with
    | ok z S2 => cases z <;> first | (cases h; exact ⟨_, rfl⟩) | cases h
    | err _ _ _ => cases h
    | bad => cases h
  have ko : ∀ {f S o d S1}, kOwn cl f S o = .ok d S1 → ∃ b, d = .bl b := by
    intro f S o d S1 h
    cases o with
    | none => cases h
    | some ds => exact kb h
  have kn : ∀ {S o d S1}, eqnR S o = .ok d S1 → ∃ b, d = .bl b := by
    intro S o d S1 h
    cases o with
    | none => cases h
    | some b => cases h; exact ⟨_, rfl⟩
  unfold cmpD eqD at h
  repeat' split at h
  all_goals first
    | (cases h; done)
    | (cases h; exact ⟨_, rfl⟩)
    | exact kn h
    | exact ko h
theorem cmp_bl {op : Cm} {ce cf : CE} {cl : Cl} {d : D} {S1 : Sto} (h : evE G cl (.cmp op ce cf) ρ S = .ok d S1) : ∃ b, d = .bl b := by
  rw [evE] at h
  cases q : evE G cl ce ρ S with
  | ok x S2 =>
    rw [q] at h
    have h' : (evE G cl cf ρ S2).bind (cmpD G cl op x) = .ok d S1 := h
    cases q2 : evE G cl cf ρ S2 with
    | ok y S3 => rw [q2] at h'; exact cmpD_bl h'
    | err _ _ _ => rw [q2] at h'; cases h'
    | bad => rw [q2] at h'; cases h'
  | err _ _ _ => rw [q] at h; cases h
  | bad => rw [q] at h; cases h
/-- the reading of a test -/
abbrev LC (g : Wd) (su : Su) (W : WX) (ev : Ev → Sto → R D) : TT := LB g su W (fun ρ S => (ev ρ S).bind kTest)
theorem t_cmp (C : Cok G g n true su X W) {op : Cm} {p : CmpOp} {ce cf : CE} (hp : cmB op p = true) (hr : rightB op cf = true) (hs : noSet b = true) (ha : PE X a (LT g su W (evE G (Tk.call G n) ce))) (hb : PE X b (LT g su W (evE G (Tk.call G n) cf))) :
    PT X (.Compare a [p] [b] pos) (LC g su W (evE G (Tk.call G n) (.cmp op ce cf))) := by
  rw [cmB_eq hp]
  refine PT.imp (pt_cmpS (opr_cmp C op) ha hb (marks_of hs)) fun σ H Q h => ?_
  obtain ⟨c, S, ρ, o, hsu, r, re, h⟩ := h
  exact LT.twoC C hr ⟨hsu, r, re⟩ (PostB.open h fun d S1 z => cmp_bl z)
/-- a test of any other kind -/
theorem t_any (C : Cok G g n cm su X W) {ce : CE} (ha : PE X a (LT g su W (evE G (Tk.call G n) ce))) (he : ∀ whole, isTrue a X.env whole = (do let v ← whole; standAt a.pos; holding [v] (truthy v))) : PT X a (LC g su W (evE G (Tk.call G n) ce)) := by
  refine PT.imp (pt_truth ha he) fun σ H Q h => ?_
  obtain ⟨c, S, ρ, o, hsu, r, re, h⟩ := h
  refine LT.mk ⟨hsu, r, re⟩ ?_
  cases q : evE G (Tk.call G n) ce ρ S with
  | ok d S1 =>
    intro v H1 c1 q1
    have h2 : PostB g c H (fun cls dx H' => W cls dx σ H') Q (kTest d S1) := by
      have h3 : PostB g c H (fun cls dx H' => W cls dx σ H') Q ((evE G (Tk.call G n) ce ρ S).bind kTest) := h
      rw [q] at h3; exact h3
    unfold kTest at h2
    cases q2 : truth S1 d with
    | none => rw [q2] at h2; exact h2.elim
    | some b => rw [q2] at h2; exact ⟨b, tru_at C.K q1.s q1.r q2, h2 H1 c1 q1.e q1.s⟩
  | err k fs S1 =>
    have h3 : PostB g c H (fun cls dx H' => W cls dx σ H') Q ((evE G (Tk.call G n) ce ρ S).bind kTest) := h
    rw [q] at h3; exact h3
  | bad =>
    have h3 : PostB g c H (fun cls dx H' => W cls dx σ H') Q ((evE G (Tk.call G n) ce ρ S).bind kTest) := h
    rw [q] at h3; exact h3.elim
theorem t_not (C : Cok G g n cm su X W) {ce : CE} (ha : PT X a (LC g su W (evE G (Tk.call G n) ce))) : PT X (.UnaryOp .Not a pos) (LC g su W (evE G (Tk.call G n) (.not ce))) := by
  refine PT.imp (pt_not ha) fun σ H Q h => ?_
  obtain ⟨c, S, ρ, o, hsu, r, re, h⟩ := h
  refine ⟨c, S, ρ, o, hsu, r, re, ?_⟩
  have h3 : PostB g c H (fun cls dx H' => W cls dx σ H') Q ((evE G (Tk.call G n) (.not ce) ρ S).bind kTest) := h
  rw [evE] at h3
  show PostB g c H (fun cls dx H' => W cls dx σ H') (fun c H1 => Q (!c) H1) ((evE G (Tk.call G n) ce ρ S).bind kTest)
  cases q : evE G (Tk.call G n) ce ρ S with
  | ok d S1 =>
    rw [q] at h3
    have h4 : PostB g c H (fun cls dx H' => W cls dx σ H') Q ((kNot d S1).bind kTest) := h3
    show PostB g c H (fun cls dx H' => W cls dx σ H') (fun c H1 => Q (!c) H1) (kTest d S1)
    unfold kNot at h4
    unfold kTest
    cases q2 : truth S1 d with
    | none => rw [q2] at h4; exact h4.elim
    | some b => rw [q2] at h4; exact h4
  | err k fs S1 => rw [q] at h3; exact h3
  | bad => rw [q] at h3; exact h3.elim
end
end Tk
/-! Core 11: and, or, displays, subscripts, attributes, calls. -/
namespace Tk
open PySem PySem.Spec PyProof.Rows L2

section
variable {G : Prog} {g : Wd} {n : Nat} {cm : Bool} {su : Su} {X : Cx} {W : WX} {c c' : Ct} {H H' : Hp} {S S' : Sto} {ρ : Ev} {o : List (Nat × Addr)} {σ : L2.St} {Q : VK} {ea eb ev : Ev → Sto → R D} {a b e x1 : Expr} {pos : Pos}

/-! ### and, or -/
theorem fz_new {d : D} (hs : still d = true) : ∀ xs, fz d ≠ .new xs := by
  intro xs z
  cases d <;> first | (cases z; done) | cases hs
theorem repT_fz {d : D} {v : V} (h : RepT g c H d v) (hs : still d = true) : RepT g c H (fz d) v := by
  have h1 := h.rest hs
  cases d <;> first | exact h1 | cases hs
theorem kAnd_post {w t : Bool} {er : Sto → R D} {d : D} {v : V} {WW : WH} (C : Cok G g n cm su X W) (r : RelS g c H S) (hv : RepT g c H d v) (h : Post g c H WW Q (kAnd w er d S)) :
    ∃ t, TruV X.K v H t ∧ (t = w → Post g c H WW Q (er S)) ∧ (t ≠ w → Q v H) := by
  unfold kAnd at h
  cases q : truth S d with
  | none => rw [q] at h; exact h.elim
  | some t =>
    rw [q] at h
    dsimp only at h
    refine ⟨t, tru_at C.K r hv q, fun z => by rw [if_pos z] at h; exact h, fun z => ?_⟩
    rw [if_neg z] at h
    by_cases hs : still d = true
    · rw [if_pos hs] at h; exact h.now r (repT_fz hv hs) (fz_new hs)
    · rw [if_neg hs] at h; exact h.elim
theorem s_and1 {ce : CE} {w : Bool} {op : BoolOp} (ha : PE X a (LT g su W (evE G (Tk.call G n) ce))) : PE X (.BoolOp op [a] pos) (LT g su W (evAnd G (Tk.call G n) w (.cons ce .nil))) := by
  rw [LT.eq (ev' := evE G (Tk.call G n) ce) fun ρ S => by rw [evAnd]]
  exact pe_one ha
theorem s_and (C : Cok G g n cm su X W) {ce ce2 : CE} {ces : CEs} {rest : List Expr} (ha : PE X a (LT g su W (evE G (Tk.call G n) ce))) (hb : PE X (.BoolOp .And (b :: rest) pos) (LT g su W (evAnd G (Tk.call G n) true (.cons ce2 ces)))) :
    PE X (.BoolOp .And (a :: b :: rest) pos) (LT g su W (evAnd G (Tk.call G n) true (.cons ce (.cons ce2 ces)))) := by
  refine PE.imp (pe_andT ha hb) fun σ H Q h => ?_
  obtain ⟨c, S, ρ, o, at_, h⟩ := h.open
  rw [evAnd] at h
  refine LT.mk at_ (Post.bind h fun d S1 v H1 c1 _ q1 h1 => ?_)
  obtain ⟨t, ht, h2, h3⟩ := kAnd_post (t := true) C q1.s q1.r h1
  refine ⟨t, ht, ?_⟩
  cases t with
  | true => rw [if_pos rfl]; exact LT.mk (at_.go q1.e q1.s) (h2 rfl)
  | false => rw [if_neg Bool.false_ne_true]; exact h3 Bool.false_ne_true
theorem s_or (C : Cok G g n cm su X W) {ce ce2 : CE} {ces : CEs} {rest : List Expr} (ha : PE X a (LT g su W (evE G (Tk.call G n) ce))) (hb : PE X (.BoolOp .Or (b :: rest) pos) (LT g su W (evAnd G (Tk.call G n) false (.cons ce2 ces)))) :
    PE X (.BoolOp .Or (a :: b :: rest) pos) (LT g su W (evAnd G (Tk.call G n) false (.cons ce (.cons ce2 ces)))) := by
  refine PE.imp (pe_orT ha hb) fun σ H Q h => ?_
  obtain ⟨c, S, ρ, o, at_, h⟩ := h.open
  rw [evAnd] at h
  refine LT.mk at_ (Post.bind h fun d S1 v H1 c1 _ q1 h1 => ?_)
  obtain ⟨t, ht, h2, h3⟩ := kAnd_post (t := true) C q1.s q1.r h1
  refine ⟨t, ht, ?_⟩
  cases t with
  | true => rw [if_pos rfl]; exact h3 (by decide)
  | false => rw [if_neg Bool.false_ne_true]; exact LT.mk (at_.go q1.e q1.s) (h2 rfl)
theorem t_and1 {ce : CE} {w : Bool} (op : BoolOp) (ha : PT X a (LC g su W (evE G (Tk.call G n) ce))) : PW X (.BoolOp op [a] pos) (LC g su W (evAnd G (Tk.call G n) w (.cons ce .nil))) := by
  have e : (fun ρ S => (evAnd G (Tk.call G n) w (.cons ce .nil) ρ S).bind kTest) = fun ρ S => (evE G (Tk.call G n) ce ρ S).bind kTest := by
    funext ρ S; rw [evAnd]
  show PW X _ (LB g su W _)
  rw [e]
  cases op with
  | And => exact pw_and1 ha
  | Or => exact pw_or1 ha
theorem truth_fz {d : D} (hs : still d = true) : truth S (fz d) = truth S d := by
  cases d <;> first | rfl | cases hs
/-- one operand of and, or as a test -/
theorem kAnd_test {w : Bool} {er : Sto → R D} {r : R D} {WW : WH} {Q : Bool → Hp → Prop} (h : PostB g c H WW Q ((r.bind (kAnd w er)).bind kTest)) {K : Bool → Hp → Prop}
    (h1 : ∀ S1 H' c', E c H c' H' → RelS g c' H' S1 → PostB g c' H' WW Q ((er S1).bind kTest) → K w H') (h2 : ∀ H', Q (!w) H' → K (!w) H') : PostB g c H WW K (r.bind kTest) := by
  cases r with
  | ok d S1 =>
    have h' : PostB g c H WW Q ((kAnd w er d S1).bind kTest) := h
    show PostB g c H WW K (kTest d S1)
    unfold kAnd at h'
    unfold kTest
    cases q : truth S1 d with
    | none => rw [q] at h'; exact h'.elim
    | some t =>
      rw [q] at h'
      dsimp only at h'
      intro H' c' e s
      by_cases z : t = w
      · rw [if_pos z] at h'
        subst z
        exact h1 S1 H' c' e s (PostB.shift e h')
      · rw [if_neg z] at h'
        have ez : t = !w := by cases t <;> cases w <;> simp_all
        subst ez
        by_cases hs : still d = true
        · rw [if_pos hs] at h'
          have h3 : PostB g c H WW Q (kTest (fz d) S1) := h'
          unfold kTest at h3
          rw [truth_fz hs, q] at h3
          exact h2 H' (h3 H' c' e s)
        · rw [if_neg hs] at h'; exact h'.elim
  | err k fs S1 => exact h
  | bad => exact h
theorem t_and (C : Cok G g n cm su X W) {ce ce2 : CE} {ces : CEs} {rest : List Expr} (ha : PT X a (LC g su W (evE G (Tk.call G n) ce))) (hb : PW X (.BoolOp .And (b :: rest) pos) (LC g su W (evAnd G (Tk.call G n) true (.cons ce2 ces)))) :
    PW X (.BoolOp .And (a :: b :: rest) pos) (LC g su W (evAnd G (Tk.call G n) true (.cons ce (.cons ce2 ces)))) := by
  refine PW.imp (pw_and ha hb) fun σ H Q h => ?_
  obtain ⟨c, S, ρ, o, hsu, r, re, h⟩ := h
  change PostB g c H _ _ ((evAnd G (Tk.call G n) _ _ ρ S).bind kTest) at h
  rw [evAnd] at h
  exact ⟨c, S, ρ, o, hsu, r, re, kAnd_test h (fun S1 H' c' e s h1 => by
    rw [if_pos rfl]
    exact ⟨c', S1, ρ, o, e.su.trans hsu, s, re.ext e fun b hb => (r.x b hb).1, h1⟩) fun H' q => by rw [if_neg (by decide)]; exact q⟩
theorem t_or (C : Cok G g n cm su X W) {ce ce2 : CE} {ces : CEs} {rest : List Expr} (ha : PT X a (LC g su W (evE G (Tk.call G n) ce))) (hb : PW X (.BoolOp .Or (b :: rest) pos) (LC g su W (evAnd G (Tk.call G n) false (.cons ce2 ces)))) :
    PW X (.BoolOp .Or (a :: b :: rest) pos) (LC g su W (evAnd G (Tk.call G n) false (.cons ce (.cons ce2 ces)))) := by
  refine PW.imp (pw_or ha hb) fun σ H Q h => ?_
  obtain ⟨c, S, ρ, o, hsu, r, re, h⟩ := h
  change PostB g c H _ _ ((evAnd G (Tk.call G n) _ _ ρ S).bind kTest) at h
  rw [evAnd] at h
  exact ⟨c, S, ρ, o, hsu, r, re, kAnd_test h (fun S1 H' c' e s h1 => by
    rw [if_neg (by decide)]
    exact ⟨c', S1, ρ, o, e.su.trans hsu, s, re.ext e fun b hb => (r.x b hb).1, h1⟩) fun H' q => by rw [if_pos (by decide)]; exact q⟩
/-- a if t else b -/
theorem s_ite (C : Cok G g n cm su X W) {ct ca cb : CE} (ht : PT X x1 (LC g su W (evE G (Tk.call G n) ct))) (ha : PE X a (LT g su W (evE G (Tk.call G n) ca))) (hb : PE X b (LT g su W (evE G (Tk.call G n) cb))) :
    PE X (.IfExp x1 a b pos) (LT g su W (evE G (Tk.call G n) (.ite ct ca cb))) := by
  refine PE.imp (pe_ifExp ht ha hb) fun σ H Q h => ?_
  obtain ⟨c, S, ρ, o, at_, h⟩ := h.open
  rw [evE] at h
  refine ⟨c, S, ρ, o, at_.su, at_.s, at_.e, ?_⟩
  show PostB g c H _ _ ((evE G (Tk.call G n) ct ρ S).bind kTest)
  cases q : evE G (Tk.call G n) ct ρ S with
  | ok d S1 =>
    rw [q] at h
    have h' : Post g c H (fun cls dx H' => W cls dx σ H') Q (kIte (evE G (Tk.call G n) ca ρ) (evE G (Tk.call G n) cb ρ) d S1) := h
    show PostB g c H _ _ (kTest d S1)
    unfold kIte at h'
    unfold kTest
    cases q2 : truth S1 d with
    | none => rw [q2] at h'; exact h'.elim
    | some t =>
      rw [q2] at h'
      intro H' c' e s
      cases t with
      | true => rw [if_pos rfl]; exact LT.mk (at_.go e s) (Post.shift e h')
      | false => rw [if_neg Bool.false_ne_true]; exact LT.mk (at_.go e s) (Post.shift e h')
  | err k fs S1 => rw [q] at h; exact h
  | bad => rw [q] at h; exact h

/-! ### arguments, displays -/
theorem a_nil : PA X [] (LA g su W (evEs G (Tk.call G n) .nil)) := by
  refine PA.imp pa_nil fun σ H Q h => ?_
  obtain ⟨c, S, ρ, o, hsu, r, re, h⟩ := h
  rw [evEs] at h
  exact h [] H c ⟨E.refl _ _, rfl, r⟩
theorem a_cons (C : Cok G g n cm su X W) {ce : CE} {ces : CEs} {es : List Expr} (hp : plainX a = true) (ha : PE X a (LT g su W (evE G (Tk.call G n) ce))) (hr : PA X es (LA g su W (evEs G (Tk.call G n) ces))) :
    PA X (a :: es) (LA g su W (evEs G (Tk.call G n) (.cons ce ces))) := by
  refine PA.imp (pa_cons ha hr (star_cons hp)) fun σ H Q h => ?_
  obtain ⟨c, S, ρ, o, hsu, r, re, h⟩ := h
  rw [evEs] at h
  have at_ : At g su c H S o σ ρ := ⟨hsu, r, re⟩
  refine LT.mk at_ ?_
  cases q : evE G (Tk.call G n) ce ρ S with
  | ok d S1 =>
    rw [q] at h
    have h' : PostA g c H (fun cls dx H' => W cls dx σ H') Q ((evEs G (Tk.call G n) ces ρ S1).bind (kCons2 d)) := h
    intro v H1 c1 q1
    have a1 := at_.go q1.e q1.s
    refine ⟨c1, S1, ρ, o, a1.su, a1.s, a1.e, ?_⟩
    have h2 := PostA.shift q1.e h'
    cases q2 : evEs G (Tk.call G n) ces ρ S1 with
    | ok ds S2 =>
      rw [q2] at h2
      intro vs H2 c2 g2
      exact h2 (v :: vs) H2 c2 ⟨g2.e, ⟨v, vs, rfl, q1.r.ext g2.e, g2.r⟩, g2.s⟩
    | err k fs S2 => rw [q2] at h2; exact h2
    | bad => rw [q2] at h2; exact h2
  | err k fs S1 => rw [q] at h; exact h
  | bad => rw [q] at h; exact h
theorem LA.then {ces : CEs} {k : List D → Sto → R D} (at_ : At g su c H S o σ ρ) {Q1 : List V → Hp → Prop} (h : Post g c H (fun cls dx H' => W cls dx σ H') Q ((evEs G (Tk.call G n) ces ρ S).bind k))
    (hk : ∀ ds S' vs H' c', Gots g c H c' H' ds vs S' → At g su c' H' S' o σ ρ → Post g c' H' (fun cls dx H' => W cls dx σ H') Q (k ds S') → Q1 vs H') : LA g su W (evEs G (Tk.call G n) ces) σ H Q1 :=
  ⟨c, S, ρ, o, at_.su, at_.s, at_.e, Post.bindA h fun ds S' vs H' c' _ q h' => hk ds S' vs H' c' q (at_.go q.e q.s) h'⟩
theorem s_tup {ces : CEs} {es : List Expr} {k : Nat} (ha : PA X es (LA g su W (evEs G (Tk.call G n) ces))) : PE X (.Tuple es k pos) (LT g su W (evE G (Tk.call G n) (.tup ces))) := by
  refine PE.imp (pe_tup ha) fun σ H Q h => ?_
  obtain ⟨c, S, ρ, o, at_, h⟩ := h.open
  rw [evE] at h
  refine LA.then at_ h fun ds S1 vs H1 c1 q a1 h1 => ?_
  unfold kTup at h1
  cases q2 : fzs ds with
  | none => rw [q2] at h1; exact h1.elim
  | some xs =>
    rw [q2] at h1
    dsimp only at h1
    by_cases hl : xs.length ≤ LIM
    · rw [if_pos hl] at h1
      have hr := q.r.rest q2
      exact ⟨by rw [hr.length]; exact lim_line hl, fun p hp => Post.tup q.s hr hp h1⟩
    · rw [if_neg hl] at h1; exact h1.elim
theorem s_lst {ces : CEs} {es : List Expr} (ha : PA X es (LA g su W (evEs G (Tk.call G n) ces))) : PE X (.List es pos) (LT g su W (evE G (Tk.call G n) (.lst ces))) := by
  refine PE.imp (pe_lst ha) fun σ H Q h => ?_
  obtain ⟨c, S, ρ, o, at_, h⟩ := h.open
  rw [evE] at h
  refine LA.then at_ h fun ds S1 vs H1 c1 q a1 h1 => ?_
  unfold kLst at h1
  cases q2 : fzs ds with
  | none => rw [q2] at h1; exact h1.elim
  | some xs =>
    rw [q2] at h1
    dsimp only at h1
    by_cases hl : xs.length ≤ LIM
    · rw [if_pos hl] at h1
      have hr := q.r.rest q2
      exact ⟨by rw [hr.length]; exact lim_line hl, fun p hp => Post.lst q.s hr hp h1⟩
    · rw [if_neg hl] at h1; exact h1.elim

/-! ### subscripts, attributes -/
theorem atI_reps {xs : List D} {vs : List V} {i : Int} {d : D} (h : Reps g c H xs vs) (e : atI xs i = some d) : ∃ v, atI vs i = some v ∧ Rep g c H d v := by
  unfold atI at e ⊢
  rw [h.length]
  cases q : ixN xs.length i with
  | none => rw [q] at e; cases e
  | some j =>
    rw [q] at e
    have e' : xs[j]? = some d := e
    obtain ⟨v, h1, h2⟩ := h.get e'
    exact ⟨v, h1, h2⟩
theorem rep_T {d : D} {v : V} (h : Rep g c H d v) : RepT g c H d v ∧ ∀ xs, d ≠ .new xs := by
  cases d <;> first
    | exact ⟨h, fun _ z => by cases z⟩
    | (rw [Rep] at h; exact h.elim)
theorem plain_ix (h : ixX b = true) : PlainIx b := by
  intro o i
  cases b <;> first | rfl | cases h
theorem s_ix (C : Cok G g n cm su X W) {ce ci : CE} (hx : ixX b = true) (ha : PE X a (LT g su W (evE G (Tk.call G n) ce))) (hb : PE X b (LT g su W (evE G (Tk.call G n) ci))) :
    PE X (.Subscript a b pos) (LT g su W (evE G (Tk.call G n) (.ix ce ci))) := by
  refine PE.imp (pe_ix ix_seq ha hb (plain_ix hx)) fun σ H Q h => ?_
  obtain ⟨c, S, ρ, o, at_, h⟩ := h.open
  rw [evE] at h
  refine LT.mk at_ (Post.bind h fun d S1 v H1 c1 _ q1 h1 => ?_)
  refine LT.mk (at_.go q1.e q1.s) (Post.bind h1 fun e S2 u H2 c2 hE q2 h2 => ?_)
  unfold ixD at h2
  cases s1 : seqOf S2 d with
  | none => rw [s1] at h2; exact h2.elim
  | some xs =>
    rw [s1] at h2
    cases e with
    | int j =>
      dsimp only at h2
      cases s2 : atI xs j with
      | none => rw [s2] at h2; exact h2.elim
      | some z =>
        rw [s2] at h2
        obtain ⟨p, vs, e1, e2, e3, _⟩ := seq_at C.K q2.s (q1.r.ext q2.e) s1
        obtain ⟨w, e4, e5⟩ := atI_reps e3 s2
        obtain ⟨e6, e7⟩ := rep_T e5
        have hQ := Post.now q2.s e6 e7 h2
        rcases e2 with e2 | e2
        · exact .inl ⟨p, vs, j, w, e1, int_of q2.r, e2, e4, hQ⟩
        · exact .inr (.inl ⟨p, vs, j, w, e1, int_of q2.r, e2, e4, hQ⟩)
    | _ => exact h2.elim
end
end Tk
/-! Core 12: slices, attributes, built-ins, calls. -/
namespace Tk
open PySem PySem.Spec PyProof.Rows L2

section
variable {G : Prog} {g : Wd} {n : Nat} {cm : Bool} {su : Su} {X : Cx} {W : WX} {c c' : Ct} {H H' : Hp} {S S' : Sto} {ρ : Ev} {o : List (Nat × Addr)} {σ : L2.St} {Q : VK} {ea eb ev : Ev → Sto → R D} {a b e x1 : Expr} {pos : Pos}

/-! ### slices -/
def PostO (g : Wd) (c : Ct) (H : Hp) (W : WH) (Q : Option Int → Hp → Prop) : R (Option Int) → Prop
  | .ok z S' => ∀ H' c', E c H c' H' → RelS g c' H' S' → Q z H'
  | .err k fs S' => ∀ H' c' dx, E c H c' H' → RelS g c' H' S' → XRep g c' H' k fs dx → W (.ref (g.ca k)) dx H'
  | .bad => False
def LO (g : Wd) (su : Su) (W : WX) (ev : Ev → Sto → R (Option Int)) : TO := fun σ H Q =>
  ∃ c S ρ o, c.su = su ∧ RelS g c H S ∧ RelE g c H o σ ρ ∧ PostO g c H (fun cls dx H' => W cls dx σ H') Q (ev ρ S)
theorem po_nul : PO X none (LO g su W fun ρ => optI true (ea ρ)) := by
  refine ⟨fun pins s σ H Q I h => po_none.run pins s σ H Q I ?_⟩
  obtain ⟨c, S, ρ, o, hsu, r, re, h⟩ := h
  exact h H c (E.refl _ _) r
theorem po_e {ce : CE} (ha : PE X a (LT g su W (evE G (Tk.call G n) ce))) : PO X (some a) (LO g su W fun ρ => optI false (evE G (Tk.call G n) ce ρ)) := by
  refine ⟨fun pins s σ H Q I h => (po_some ha).run pins s σ H Q I ?_⟩
  obtain ⟨c, S, ρ, o, hsu, r, re, h⟩ := h
  refine LT.mk ⟨hsu, r, re⟩ ?_
  have h' : PostO g c H (fun cls dx H' => W cls dx σ H') Q ((evE G (Tk.call G n) ce ρ S).bind kInt) := h
  cases q : evE G (Tk.call G n) ce ρ S with
  | ok d S1 =>
    rw [q] at h'
    have h2 : PostO g c H (fun cls dx H' => W cls dx σ H') Q (kInt d S1) := h'
    intro v H1 c1 q1
    cases d with
    | int i => exact ⟨i, int_of q1.r, h2 H1 c1 q1.e q1.s⟩
    | _ => exact h2.elim
  | err k fs S1 => rw [q] at h'; exact h'
  | bad => rw [q] at h'; exact h'
theorem cut_reps {xs : List D} {vs : List V} (h : Reps g c H xs vs) (lo hi : Option Int) : Reps g c H (cutD xs lo hi) (cutV vs lo hi) := by
  unfold cutD cutV
  rw [h.length]
  exact (h.drop _).take _
theorem s_sl (C : Cok G g n cm su X W) {ce lo hi : CE} {l u : Option Expr} {p2 : Pos} (ha : PE X a (LT g su W (evE G (Tk.call G n) ce)))
    (hl : PO X l (LO g su W fun ρ => optI lo.isNul (evE G (Tk.call G n) lo ρ))) (hu : PO X u (LO g su W fun ρ => optI hi.isNul (evE G (Tk.call G n) hi ρ))) :
    PE X (.Subscript a (.Slice l u none p2) pos) (LT g su W (evE G (Tk.call G n) (.sl ce lo hi))) := by
  refine PE.imp (pe_slice (SlR.or sl_tupA sl_list) ha hl hu) fun σ H Q h => ?_
  obtain ⟨c, S, ρ, o, at_, h⟩ := h.open
  rw [evE] at h
  refine LT.mk at_ (Post.bind h fun d S1 v H1 c1 _ q1 h1 => ?_)
  have a1 := at_.go q1.e q1.s
  refine ⟨c1, S1, ρ, o, a1.su, a1.s, a1.e, ?_⟩
  unfold kSl at h1
  show PostO g c1 H1 _ _ (optI lo.isNul (evE G (Tk.call G n) lo ρ) S1)
  cases z1 : optI lo.isNul (evE G (Tk.call G n) lo ρ) S1 with
  | err k fs S2 => rw [z1] at h1; exact h1
  | bad => rw [z1] at h1; exact h1
  | ok i1 S2 =>
    rw [z1] at h1
    have h2 : Post g c1 H1 (fun cls dx H' => W cls dx σ H') Q (kSl2 (optI hi.isNul (evE G (Tk.call G n) hi ρ)) d i1 S2) := h1
    intro H2 c2 e2 r2
    have h2 := Post.shift e2 h2
    have a2 := a1.go e2 r2
    refine ⟨c2, S2, ρ, o, a2.su, a2.s, a2.e, ?_⟩
    unfold kSl2 at h2
    show PostO g c2 H2 _ _ (optI hi.isNul (evE G (Tk.call G n) hi ρ) S2)
    cases z2 : optI hi.isNul (evE G (Tk.call G n) hi ρ) S2 with
    | err k fs S3 => rw [z2] at h2; exact h2
    | bad => rw [z2] at h2; exact h2
    | ok i2 S3 =>
      rw [z2] at h2
      have h3 : Post g c2 H2 (fun cls dx H' => W cls dx σ H') Q (slD d i1 i2 S3) := h2
      intro H3 c3 e3 r3
      have h3 := Post.shift e3 h3
      have hr := (q1.r.ext e2).ext e3
      have others : ∀ xs, seqOf S3 d = some xs → (∀ ys, d ≠ .tup ys) → Post g c3 H3 (fun cls dx H' => W cls dx σ H') Q (.ok (.new (cutD xs i1 i2)) S3) → rSlL X.K v i1 i2 H3 Q := by
        intro xs sx nt hp
        obtain ⟨p, vs, f1, f2, f3, _, f5⟩ := seq_at C.K r3 hr sx
        exact ⟨p, vs, f1, f5 nt, fun p hp' => Post.lst r3 (cut_reps f3 i1 i2) hp' hp⟩
      cases d with
      | tup xs =>
        have h4 : Post g c3 H3 (fun cls dx H' => W cls dx σ H') Q (.ok (.tup (cutD xs i1 i2)) S3) := h3
        obtain ⟨p, vs, f1, _, f3, f4, _⟩ := seq_at C.K r3 hr (xs := xs) rfl
        refine .inl ⟨p, vs, f1, f4 _ rfl, fun hw => ?_, fun hc p hp' => Post.tup r3 (cut_reps f3 i1 i2) hp' h4⟩
        rw [f3.length] at hw
        have e : cutD xs i1 i2 = xs := by
          unfold cutD
          rw [hw.1, hw.2, List.drop_zero, Nat.sub_zero, List.take_length]
        rw [e] at h4
        exact f1 ▸ h4.now r3 hr (fun _ z => by cases z)
      | lst xs => exact .inr (others xs rfl (fun _ z => by cases z) h3)
      | new xs => exact .inr (others xs rfl (fun _ z => by cases z) h3)
      | scr xs => exact .inr (others xs rfl (fun _ z => by cases z) h3)
      | own i xs => exact .inr (others xs rfl (fun _ z => by cases z) h3)
      | loc k =>
        have h4 : Post g c3 H3 (fun cls dx H' => W cls dx σ H') Q (match seqOf S3 (.loc k) with | some xs => .ok (.new (cutD xs i1 i2)) S3 | none => .bad) := h3
        cases sx : seqOf S3 (.loc k) with
        | none => rw [sx] at h4; exact h4.elim
        | some xs => rw [sx] at h4; exact .inr (others xs sx (fun _ z => by cases z) h4)
      | _ => exact h3.elim

/-! ### attributes of instances -/
theorem idx_lookup : ∀ {fs : List Str} {vs : List V} {x : Str} {p : Nat} {v : V}, fs.idxOf? x = some p → vs[p]? = some v → (fs.zip vs).lookup x = some v
  | [], vs, x, p, v, h, q => by simp at h
  | f :: fs, [], x, p, v, h, q => by simp at q
  | f :: fs, w :: vs, x, p, v, h, q => by
    rw [List.zip_cons_cons, List.lookup_cons]
    by_cases e : f = x
    · subst e
      have : p = 0 := by simpa [List.idxOf?_cons] using h.symm
      subst this
      simp at q
      simp [q]
    · have e1 : (f == x) = false := by simpa using e
      have e2 : (x == f) = false := by simpa using fun z => e z.symm
      rw [e2]
      rw [List.idxOf?_cons, e1] at h
      cases r : fs.idxOf? x with
      | none => rw [r] at h; simp at h
      | some j =>
        rw [r] at h
        have : p = j + 1 := by simpa using h.symm
        subst this
        exact idx_lookup r (by simpa using q)
theorem idx_mem : ∀ {fs : List Str} {x : Str} {p : Nat}, fs.idxOf? x = some p → x ∈ fs
  | [], x, p, h => by simp at h
  | f :: fs, x, p, h => by
    by_cases e : f = x
    · subst e; exact List.mem_cons_self
    · have e1 : (f == x) = false := by simpa using e
      rw [List.idxOf?_cons, e1] at h
      cases r : fs.idxOf? x with
      | none => rw [r] at h; simp at h
      | some j => exact List.mem_cons_of_mem _ (idx_mem r)
theorem idx_lt : ∀ {fs : List Str} {x : Str} {p : Nat}, fs.idxOf? x = some p → p < fs.length ∧ fs[p]? = some x
  | [], x, p, h => by simp at h
  | f :: fs, x, p, h => by
    by_cases e : f = x
    · subst e
      have : p = 0 := by simpa [List.idxOf?_cons] using h.symm
      subst this
      simp
    · have e1 : (f == x) = false := by simpa using e
      rw [List.idxOf?_cons, e1] at h
      cases r : fs.idxOf? x with
      | none => rw [r] at h; simp at h
      | some j =>
        rw [r] at h
        have : p = j + 1 := by simpa using h.symm
        subst this
        obtain ⟨h1, h2⟩ := idx_lt r
        exact ⟨by simp; omega, by simpa using h2⟩
theorem idx_take : ∀ {ys : List Str} {x : Str} {p m : Nat}, ys.idxOf? x = some p → p < m → (ys.take m).idxOf? x = some p
  | [], x, p, m, h, q => by simp at h
  | y :: ys, x, p, 0, h, q => by omega
  | y :: ys, x, p, m + 1, h, q => by
    rw [List.take_succ_cons, List.idxOf?_cons]
    rw [List.idxOf?_cons] at h
    by_cases ey : (y == x) = true
    · rw [if_pos ey] at h ⊢; exact h
    · rw [if_neg ey] at h ⊢
      cases r : ys.idxOf? x with
      | none => rw [r] at h; simp at h
      | some j =>
        rw [r] at h
        have : p = j + 1 := by simpa using h.symm
        subst this
        rw [idx_take r (by omega : j < m)]; rfl
theorem fpos_of {k f p : Nat} (h : fpos G k f = some p) : ∃ cc x, G.clss[k]? = some cc ∧ G.attrs[f]? = some x ∧ cc.fields.idxOf? x = some p := by
  unfold fpos at h
  split at h
  · rename_i cc x h1 h2; exact ⟨cc, x, h1, h2, h⟩
  · cases h
theorem attr_base {x : Str} (h : attrB a = true) : attributeBase a x X.env (eval a X.env) = eval a X.env := by
  cases a with
  | Call f as ks p =>
    cases f <;> first | rfl | (cases as <;> first | (cases h; done) | (cases ks <;> rfl))
  | _ => rfl
/-- o.f of an instance -/
theorem s_attr0 (C : Cok G g n cm su X W) {ce : CE} {f : Nat} {x : Str} (hb : attrB a = true) (hx : G.attrs[f]? = some x) (ha : PE X a (LT g su W (evE G (Tk.call G n) ce))) : PE X (.Attribute a x pos) (LT g su W (fun ρ S => (evE G (Tk.call G n) ce ρ S).bind fun d S1 => match d with
      | .exn _ _ => .bad
      | d => attrD G d f S1)) := by
  refine PE.imp (pe_fld ha (attr_base hb)) fun σ H Q h => ?_
  obtain ⟨c, S, ρ, o, at_, h⟩ := h.open
  refine LT.mk at_ (Post.bind h fun d S1 v H1 c1 _ q1 h1 => ?_)
  have fin : ∀ k fs p dx vs z, G.cls? k = true → fpos G k f = some p → v = .ref z → H1 z = some (.ins (g.ca k) dx (((g.cf k).take fs.length).zip vs)) → fs.length ≤ (g.cf k).length → Reps g c1 H1 fs vs →
      Post g c1 H1 (fun cls dx H' => W cls dx σ H') Q (fldD G k fs f S1) →
      ∃ a C dx fs v', v = .ref a ∧ H1 a = some (.ins C dx fs) ∧ Cls X.K C ∧ NoAttr X.K C x ∧ fs.lookup x = some v' ∧ Q v' H1 := by
    intro k fs p dx vs z hk hp hv hz hle hvs h2
    obtain ⟨cc, x', e1, e2, e3⟩ := fpos_of hp
    rw [hx] at e2; cases e2
    unfold fldD at h2
    rw [hp] at h2
    dsimp only at h2
    cases w : fs[p]? with
    | none => rw [w] at h2; exact h2.elim
    | some d' =>
      rw [w] at h2
      obtain ⟨v', f1, f2⟩ := hvs.get w
      obtain ⟨f3, f4⟩ := rep_T f2
      have hc := C.st.cls k hk
      have hn := C.st.na k cc x hk e1 (idx_mem e3)
      rw [C.K] at hc hn
      refine ⟨z, g.ca k, dx, _, v', hv, hz, hc, hn, ?_, Post.now q1.s f3 f4 h2⟩
      rw [C.st.cf k cc e1] at hle ⊢
      have hpl : p < fs.length := (List.getElem?_eq_some_iff.mp w).1
      have : (cc.fields.take fs.length).idxOf? x = some p := idx_take e3 hpl
      exact idx_lookup this f1
  cases d with
  | obj k fs =>
    have h2 : Post g c1 H1 (fun cls dx H' => W cls dx σ H') Q (if G.cls? k then fldD G k fs f S1 else .bad) := h1
    by_cases hk : G.cls? k = true
    · rw [if_pos hk] at h2
      obtain ⟨z, dx, vs, e1, e2, e3, e4⟩ := obj_of q1.r
      cases hp : fpos G k f with
      | none => unfold fldD at h2; rw [hp] at h2; exact h2.elim
      | some p =>
        have hl : fs.length = (g.cf k).length := by rw [← e4.length, e3]
        exact fin k fs p dx vs z hk hp e1 (by rw [hl, List.take_length]; exact e2.1) (by omega) e4 h2
    · rw [if_neg hk] at h2; exact h2.elim
  | loc l =>
    have h2 : Post g c1 H1 (fun cls dx H' => W cls dx σ H') Q (match S1[l]? with
      | some (.ins k fs) => if G.cls? k then fldD G k fs f S1 else .bad
      | _ => .bad) := h1
    have hq := q1.r
    change Rep g c1 H1 _ v at hq; rw [Rep] at hq
    obtain ⟨z, e1, e2⟩ := hq
    cases w : S1[l]? with
    | none => rw [w] at h2; exact h2.elim
    | some ce =>
      rw [w] at h2
      cases ce with
      | lst xs => exact h2.elim
      | ins k fs =>
        dsimp only at h2
        by_cases hk : G.cls? k = true
        · rw [if_pos hk] at h2
          obtain ⟨dx, vs, f1, f2, f3⟩ := (show CellOk g c1 H1 z (.ins k fs) from q1.s.ok l _ z w e2)
          cases hp : fpos G k f with
          | none => unfold fldD at h2; rw [hp] at h2; exact h2.elim
          | some p => exact fin k fs p dx vs z hk hp e1 f1 f2 f3 h2
        · rw [if_neg hk] at h2; exact h2.elim
  | _ => exact h1.elim
end
end Tk
/-! Core 13: built-ins, isinstance, calls, makings, methods. -/
namespace Tk
open PySem PySem.Spec PyProof.Rows L2

section
variable {G : Prog} {g : Wd} {n : Nat} {cm : Bool} {su : Su} {X : Cx} {W : WX} {c c' : Ct} {H H' : Hp} {S S' : Sto} {ρ : Ev} {o : List (Nat × Addr)} {σ : L2.St} {Q : VK} {ea eb ev : Ev → Sto → R D} {a b e x1 : Expr} {pos p1 p2 : Pos} {x : Str}

theorem one_of {d : D} {vs : List V} (h : RepTs g c H [d] vs) : ∃ v, vs = [v] ∧ RepT g c H d v := by
  obtain ⟨v, r, h1, h2, h3⟩ := h
  rw [show r = [] from h3] at h1
  exact ⟨v, h1, h2⟩
theorem two_of {d e : D} {vs : List V} (h : RepTs g c H [d, e] vs) : ∃ v u, vs = [v, u] ∧ RepT g c H d v ∧ RepT g c H e u := by
  obtain ⟨v, r, h1, h2, h3⟩ := h
  obtain ⟨u, rfl, h4⟩ := one_of h3
  exact ⟨v, u, h1, h2, h4⟩
/-- what the built-in's rule wants, from what is computed -/
def BtR (G : Prog) (g : Wd) (su : Su) (W : WX) (b : Bt) (r : List V → Hp → VK → Prop) : Prop :=
  ∀ (c : Ct) (H : Hp) (S : Sto) (σ : L2.St) (Q : VK) (ds : List D) (vs : List V), RelS g c H S → RepTs g c H ds vs → Post g c H (fun cls dx H' => W cls dx σ H') Q (btD b ds S) → r vs H Q
def BtOf (X : Cx) (b : Bt) (r : List V → Hp → VK → Prop) : Prop := (∃ id, bootBuiltins (btNm b) = some (.builtin id) ∧ CallR X (.builtin id) r) ∨ ∃ T, bootBuiltins (btNm b) = some (.type T) ∧ CallR X (.type T) r
theorem bls_rep {g : Wd} {c : Ct} {H : Hp} : ∀ {xs : List D} {bs : List Bool} {vs : List V}, blsOf xs = some bs → Reps g c H xs vs → vs = bs.map V.bl
  | [], bs, vs, h, r => by cases h; exact Reps.nil_iff.mp r
  | x :: xs, bs, vs, h, r => by
    obtain ⟨v, w, rfl, h1, h2⟩ := Reps.cons_iff.mp r
    cases x with
    | bl b =>
      have h : (blsOf xs).map (b :: ·) = some bs := h
      cases q : blsOf xs with
      | none => rw [q] at h; cases h
      | some cs =>
        rw [q] at h
        cases h
        rw [Rep] at h1
        rw [h1, bls_rep q h2]; rfl
    | _ => cases h
theorem bt_rule (C : Cok G g n true su X W) (b : Bt) (hb : btOk b = true) : ∃ r, BtOf X b r ∧ BtR G g su W b r := by
  have calm := (C.cm rfl).1
  cases b with
  | len =>
    refine ⟨_, .inl ⟨"len", by decide +kernel, call_len_str.or call_len_seq⟩, fun c H S σ Q ds vs r hr h => ?_⟩
    cases ds with
    | nil => exact h.elim
    | cons d ds =>
      cases ds with
      | cons _ _ => unfold btD at h; split at h <;> first | (rename_i z _; cases z; done) | exact h.elim | (rename_i z; cases z)
      | nil =>
        obtain ⟨v, rfl, hv⟩ := one_of hr
        have seq : ∀ xs, seqOf S d = some xs → Post g c H (fun cls dx H' => W cls dx σ H') Q (.ok (.int xs.length) S) → ∃ p ys, [v] = [V.ref p] ∧ (SqL X.K H p ys ∨ SqT X.K H p ys) ∧ Q (.int ys.length) H := by
          intro xs hs h
          obtain ⟨p, vs, e1, e2, e3, _⟩ := seq_at C.K r hv hs
          exact ⟨p, vs, by rw [e1], e2, by rw [e3.length]; exact h.int r⟩
        by_cases hs : ∃ s, d = .str s
        · obtain ⟨s, rfl⟩ := hs
          have h2 : Post g c H (fun cls dx H' => W cls dx σ H') Q (if s.length ≤ LIM then .ok (.int s.length) S else .bad) := h
          by_cases hl : s.length ≤ LIM
          · rw [if_pos hl] at h2
            change Rep g c H _ v at hv; rw [Rep] at hv
            exact .inl ⟨s, by rw [hv], lim_line hl, h2.int r⟩
          · rw [if_neg hl] at h2; exact h2.elim
        · have h2 : Post g c H (fun cls dx H' => W cls dx σ H') Q (match seqOf S d with | some xs => .ok (.int xs.length) S | none => .bad) := by
            cases d <;> first | exact absurd ⟨_, rfl⟩ hs | exact h
          cases q : seqOf S d with
          | none => rw [q] at h2; exact h2.elim
          | some xs => rw [q] at h2; exact .inr (seq xs q h2)
  | abs =>
    refine ⟨_, .inl ⟨"abs", by decide +kernel, call_abs⟩, fun c H S σ Q ds vs r hr h => ?_⟩
    unfold btD at h
    split at h <;> first | (rename_i z; cases z; done) | (rename_i z _; cases z; done) | exact h.elim | skip
    obtain ⟨v, rfl, hv⟩ := one_of hr
    exact ⟨_, by rw [int_of hv], h.int r⟩
  | int =>
    refine ⟨_, .inr ⟨"int", by decide +kernel, call_int1⟩, fun c H S σ Q ds vs r hr h => ?_⟩
    unfold btD at h
    split at h <;> first | (rename_i z; cases z; done) | (rename_i z _; cases z; done) | exact h.elim | skip
    · obtain ⟨v, rfl, hv⟩ := one_of hr
      exact .inl ⟨_, by rw [int_of hv], h.int r⟩
    · obtain ⟨v, rfl, hv⟩ := one_of hr
      exact .inr ⟨_, by rw [bl_of hv], h.int r⟩
  | bool =>
    refine ⟨_, .inr ⟨"bool", by decide +kernel, call_bool1⟩, fun c H S σ Q ds vs r hr h => ?_⟩
    unfold btD at h
    split at h <;> first | (rename_i z; cases z; done) | (rename_i z _; cases z; done) | exact h.elim | skip
    · obtain ⟨v, rfl, hv⟩ := one_of hr
      exact .inl ⟨_, by rw [int_of hv], h.bl r⟩
    · obtain ⟨v, rfl, hv⟩ := one_of hr
      exact .inr ⟨_, by rw [bl_of hv], h.bl r⟩
  | max2 =>
    refine ⟨_, .inl ⟨"max", by decide +kernel, call_max2 calm⟩, fun c H S σ Q ds vs r hr h => ?_⟩
    unfold btD at h
    split at h <;> first | (rename_i z; cases z; done) | (rename_i z _; cases z; done) | exact h.elim | skip
    obtain ⟨v, u, rfl, hv, hu⟩ := two_of hr
    exact ⟨_, _, by rw [int_of hv, int_of hu], h.int r⟩
  | min2 =>
    refine ⟨_, .inl ⟨"min", by decide +kernel, call_min2 calm⟩, fun c H S σ Q ds vs r hr h => ?_⟩
    unfold btD at h
    split at h <;> first | (rename_i z; cases z; done) | (rename_i z _; cases z; done) | exact h.elim | skip
    obtain ⟨v, u, rfl, hv, hu⟩ := two_of hr
    exact ⟨_, _, by rw [int_of hv, int_of hu], h.int r⟩
  | list =>
    refine ⟨_, .inr ⟨"list", by decide +kernel, call_list_of⟩, fun c H S σ Q ds vs r hr h => ?_⟩
    unfold btD at h
    split at h <;> first | (rename_i z; cases z; done) | (rename_i z _; cases z; done) | exact h.elim | skip
    obtain ⟨v, rfl, hv⟩ := one_of hr
    split at h
    · rename_i xs hs
      obtain ⟨p, ys, e1, e2, e3, _⟩ := seq_at C.K r hv hs
      exact ⟨p, ys, by rw [e1], e2, fun l hl => Post.lst r e3 hl h⟩
    · exact h.elim
  | tuple =>
    refine ⟨_, .inr ⟨"tuple", by decide +kernel, call_tuple_of⟩, fun c H S σ Q ds vs r hr h => ?_⟩
    cases ds with
    | nil => exact h.elim
    | cons d ds =>
      cases ds with
      | cons _ _ => unfold btD at h; split at h <;> first | (rename_i z _; cases z; done) | exact h.elim | (rename_i z; cases z)
      | nil =>
        obtain ⟨v, rfl, hv⟩ := one_of hr
        by_cases ht : ∃ xs, d = .tup xs
        · obtain ⟨xs, rfl⟩ := ht
          obtain ⟨p, ys, e1, e2, e3, e4, _⟩ := seq_at C.K r hv (xs := xs) rfl
          have h2 : Post g c H (fun cls dx H' => W cls dx σ H') Q (.ok (.tup xs) S) := h
          have hQ := h2.now r hv (fun _ z => by cases z)
          rw [e1] at hQ
          exact ⟨p, ys, by rw [e1], .inr ⟨e4 _ rfl, hQ⟩⟩
        · have h2 : Post g c H (fun cls dx H' => W cls dx σ H') Q (match seqOf S d with | some xs => .ok (.tup xs) S | none => .bad) := by
            cases d <;> first | exact absurd ⟨_, rfl⟩ ht | exact h
          cases q : seqOf S d with
          | none => rw [q] at h2; exact h2.elim
          | some xs =>
            rw [q] at h2
            obtain ⟨p, ys, e1, e2, e3, _, e5⟩ := seq_at C.K r hv q
            exact ⟨p, ys, by rw [e1], .inl ⟨e5 (fun xs z => ht ⟨xs, z⟩), fun l hl => Post.tup r e3 hl h2⟩⟩
  | sum => cases hb
  | all =>
    refine ⟨_, .inl ⟨"all", by decide +kernel, cr_all calm⟩, fun c H S σ Q ds vs r hr h => ?_⟩
    cases ds with
    | nil => exact h.elim
    | cons d0 ds =>
    cases ds with
    | cons _ _ => unfold btD at h; split at h <;> first | (rename_i z _; cases z; done) | exact h.elim | (rename_i z; cases z)
    | nil =>
    obtain ⟨v, rfl, hv⟩ := one_of hr
    have h : Post g c H (fun cls dx H' => W cls dx σ H') Q (allR S ((isL d0).bind blsOf)) := by cases d0 <;> exact h
    cases q : isL d0 with
    | none => rw [q] at h; exact h.elim
    | some xs =>
      rw [q] at h
      have h : Post g c H (fun cls dx H' => W cls dx σ H') Q (allR S (blsOf xs)) := h
      cases q2 : blsOf xs with
      | none => rw [q2] at h; exact h.elim
      | some bs =>
        rw [q2] at h
        have sq : seqOf S d0 = some xs := by cases d0 <;> first | exact q | cases q
        have nt : ∀ ys, d0 ≠ .tup ys := fun ys z => by rw [z] at q; cases q
        obtain ⟨p, ys, e1, e2, e3, _, e5⟩ := seq_at C.K r hv sq
        have ey : ys = bs.map V.bl := bls_rep q2 e3
        exact ⟨p, bs, by rw [e1], by rw [← ey]; exact e5 nt, h.bl r⟩
  | any => cases hb
  | str => cases hb
theorem cks_plain {N : List Str} {sc : Scope} : ∀ {ces : CEs} {es : List Expr}, cks G N cm sc ces es = true → es.all plainX = true
  | .nil, [], _ => rfl
  | .nil, _ :: _, h => by rw [cks] at h <;> first | cases h | (intro z; cases z)
  | .cons e ces, [], h => by rw [cks] at h <;> first | cases h | (intros; rename_i z; cases z) | (intro z; cases z)
  | .cons e ces, f :: fs, h => by
    rw [cks] at h
    simp only [Bool.and_eq_true] at h
    rw [List.all_cons, h.1.1, cks_plain h.2]; rfl
theorem s_blt (C : Cok G g n true su X W) {b : Bt} {ces : CEs} {es : List Expr} (hb : btOk b = true) (hx : x = btNm b) (hm : nmOk x = true) (hg : glB X.env.scope x = true) (hp : (e :: es).all plainX = true) (ha : PA X (e :: es) (LA g su W (evEs G (Tk.call G n) ces))) :
    PE X (.Call (.Name x p1) (e :: es) [] pos) (LT g su W (evE G (Tk.call G n) (.blt b ces))) := by
  subst hx
  obtain ⟨r, h1, h2⟩ := bt_rule C b hb
  have hf : X.mg (btNm b) = none := C.st.free _ (by cases b <;> first | decide +kernel | cases hb)
  have hn : btNm b ≠ "__name__" := by cases b <;> decide +kernel
  rw [List.all_cons, Bool.and_eq_true] at hp
  have go : ∀ {σ H Q}, LT g su W (evE G (Tk.call G n) (.blt b ces)) σ H Q → tCB r (LA g su W (evEs G (Tk.call G n) ces)) σ H Q := by
    intro σ H Q h
    obtain ⟨c, S, ρ, o, at_, h⟩ := h.open
    rw [evE] at h
    exact LA.then at_ h fun ds S1 vs H1 c1 q a1 h1 => h2 c1 H1 S1 σ Q ds vs q.s q.r h1
  rcases h1 with ⟨id, h1, h3⟩ | ⟨T, h1, h3⟩
  · exact PE.imp (pe_callB h3 (gl_of hg) hf h1 ha hn (nm_of hm).1 (star_cons hp.1) (star_plain hp.2)) fun σ H Q h => go h
  · exact PE.imp (pe_callTy h3 (gl_of hg) hf h1 ha hn (nm_of hm).1 (star_cons hp.1) (star_plain hp.2)) fun σ H Q h => go h

/-! ### isinstance -/
theorem s_isi0 (C : Cok G g n cm su X W) {ce : CE} {q : Ck} {y : Str} {v : V} {u : Value} (hx : x = "isinstance") (hg : glB X.env.scope x = true) (hp : plainX a = true) (hv : PE X (.Name y p2) (tC v)) (hc : ClsV v u) (hu : u = ckV g q) (hq : okQ G q = true)
    (ha : PE X a (LT g su W (evE G (Tk.call G n) ce))) :
    PE X (.Call (.Name x p1) [a, .Name y p2] [] pos) (LT g su W (fun ρ S => (evE G (Tk.call G n) ce ρ S).bind (kIsi0 G q))) := by
  subst hx
  have hA : PA X [a, .Name y p2] (tCons (LT g su W (evE G (Tk.call G n) ce)) (tCons (tC v) tNil)) := pa_cons ha (pa_cons hv pa_nil rfl) (star_cons hp)
  refine PE.imp (pe_callB call_isi (gl_of hg) (C.st.free _ (by decide +kernel)) (by decide +kernel) hA (by decide +kernel) (by decide +kernel) (star_cons hp) (by rfl)) fun σ H Q h => ?_
  obtain ⟨c, S, ρ, o, at_, h⟩ := h.open
  refine LT.mk at_ (Post.bind h fun d S1 w H1 c1 _ q1 h1 => ?_)
  unfold kIsi0 at h1
  by_cases h0 : cmpOk G S1 d = true
  · rw [if_pos h0] at h1
    cases z : isiB G d q with
    | none => rw [z] at h1; exact h1.elim
    | some k =>
      rw [z] at h1
      obtain ⟨e1, e2, e3⟩ := cmpOk_of h0
      have hk := C.st.isi d q k (okD_of e1) hq z
      rw [C.K] at hk
      exact ⟨w, v, _, u, k, rfl, hc, tyx_of C q1.s q1.r e1 e2 e3, by rw [hu]; exact hk, h1.bl q1.s⟩
  · rw [if_neg h0] at h1; exact h1.elim

/-! ### calls of the text's own functions -/
theorem sp_call (C : Cok G g n true su X W) {f np : Nat} {ds : List D} {vs : List V} {E : L2.St → XK} (hl : vs.length = np) (hE : E σ = WE W σ) (hsu : c.su = su) (r : RelS g c H S) (hr : Reps g c H ds vs)
    (h : Post g c H (fun cls dx H' => W cls dx σ H') Q (Tk.call G n f ds S)) : SpF g (Tk.call G n) np f vs H Q (E σ) := by
  rw [hE]
  exact ⟨hl, c, S, ds, hsu.trans (C.cm rfl).2.2, r, hr, h⟩
end
end Tk
/-! Core 14: calls, methods, makings. -/
namespace Tk
open PySem PySem.Spec PyProof.Rows L2

theorem star_all {env : Env} {pos : Pos} : ∀ {es : List Expr}, es.all plainX = true → (backTo pos (starEach es env)).all (fun p => !p.1) = true ∧ (backTo pos (starEach es env)).length = es.length
  | [], _ => ⟨rfl, rfl⟩
  | e :: es, h => by
    rw [List.all_cons, Bool.and_eq_true] at h
    obtain ⟨h1, h2⟩ := star_all (env := env) (pos := pos) h.2
    rw [star_cons h.1]
    exact ⟨h1, congrArg (· + 1) h2⟩
theorem meth_eval (o : Expr) (m : Str) (apos pos : Pos) (es : List Expr) (X : Cx) (h1 : attrB o = true) (h2 : es.all plainX = true) (h3 : es.length < 30) (h4 : (apos.endLine == pos.line) = true) : ∃ pl, eval (.Call (.Attribute o m apos) es [] pos) X.env = (do
      let ov ← eval o X.env
      standAt apos.atName
      let (f, first) ← holding [ov] (getMethod ov m pl)
      callWith pos f first (backTo pos (starEach es X.env)) (backToKw pos (keywordEach [] X.env))) := by
  refine ⟨(do return (← importBound o X.env).getD true), ?_⟩
  have e : eval (.Call (.Attribute o m apos) es [] pos) X.env = (do
      let ov ← attributeBase o m X.env (eval o X.env)
      standAt apos.atName
      methodCall o m apos pos X.env ov (es.length + 0) (backTo pos (starEach es X.env)) (backToKw pos (keywordEach [] X.env))) := rfl
  rw [e, attr_base h1]
  have hf : methodCallForm (es.length + 0) (backTo pos (starEach es X.env)) (backToKw pos (keywordEach [] X.env)) = true := by
    unfold methodCallForm
    rw [(star_all h2).1]
    have : (backToKw pos (keywordEach [] X.env)) = [] := rfl
    rw [this]
    simpa using h3
  refine congrArg _ (funext fun ov => congrArg _ (funext fun _ => ?_))
  unfold methodCall
  rw [hf]
  have hp : methodCallPos true o X.env apos pos = pure pos := by
    unfold methodCallPos
    rw [h4]; rfl
  rw [hp]
  rfl

section
variable {G : Prog} {g : Wd} {n : Nat} {cm : Bool} {su : Su} {X : Cx} {W : WX} {c c' : Ct} {H H' : Hp} {S S' : Sto} {ρ : Ev} {o : List (Nat × Addr)} {σ : L2.St} {Q : VK} {ea eb ev : Ev → Sto → R D} {a b e x1 : Expr} {pos p1 p2 apos : Pos} {x : Str}
theorem call_np {WW : WH} {f : Nat} {d : DefT} {ds : List D} (hd : G.defs[f]? = some d) (h : Post g c H WW Q (Tk.call G n f ds S)) : ds.length = d.np := by
  cases n with
  | zero => exact h.elim
  | succ m =>
    have e : Tk.call G (m + 1) f ds S = callD G (Tk.call G m) ds S (some d) := by rw [← hd]; rfl
    rw [e] at h
    by_cases q : ds.length = d.np
    · exact q
    · have z : callD G (Tk.call G m) ds S (some d) = .bad := by unfold callD; simp only [q, if_false]
      rw [z] at h; exact h.elim
/-- the def's wish, from what is computed -/
theorem spF_of (C : Cok G g n true su X W) {f : Nat} {d : DefT} {ds : List D} {vs : List V} (hd : G.defs[f]? = some d) (hsu : c.su = su) (r : RelS g c H S) (hr : Reps g c H ds vs) (h : Post g c H (fun cls dx H' => W cls dx σ H') Q (Tk.call G n f ds S)) :
    SpF g (Tk.call G n) d.np f vs H Q (WE W σ) :=
  ⟨by rw [hr.length]; exact call_np hd h, c, S, ds, hsu.trans (C.cm rfl).2.2, r, hr, h⟩
theorem kCall_go (C : Cok G g n true su X W) {f : Nat} {d : DefT} {ds : List D} {vs : List V} (hd : G.defs[f]? = some d) (hsu : c.su = su) (r : RelS g c H S) (hr : RepTs g c H ds vs) (h : Post g c H (fun cls dx H' => W cls dx σ H') Q (kCall (Tk.call G n) f ds S)) :
    SpF g (Tk.call G n) d.np f vs H Q (WE W σ) := by
  unfold kCall at h
  cases q : fzs ds with
  | none => rw [q] at h; exact h.elim
  | some xs => rw [q] at h; exact spF_of C hd hsu r (hr.rest q) h
theorem s_call0 (C : Cok G g n true su X W) {f : Nat} {d : DefT} (hd : G.defs[f]? = some d) (hc : d.cls = none) (hn : d.name = x) (hm : nmOk x = true) (hg : glB X.env.scope x = true) :
    PE X (.Call (.Name x p1) [] [] pos) (LT g su W (evE G (Tk.call G n) (.call f .nil))) := by
  obtain ⟨p, fd, ps, F, hb, hlp, hk, hmg, _⟩ := C.calls f d hd
  have hK := C.K
  rw [hK] at F hb hk
  have hmg := hmg hc
  rw [hn] at hmg
  refine PE.imp (pe_call0S (E := WE W) F ((C.cm rfl).2.1.mono (Nat.le_add_right _ _)) (gl_of hg) hmg hk hb (passAt C.tk) (nm_of hm).1) fun σ H Q h => ?_
  obtain ⟨c, S, ρ, o, at_, h⟩ := h.open
  rw [evE, evEs] at h
  exact kCall_go C hd at_.su at_.s (show RepTs g c H [] [] from rfl) h
theorem s_call (C : Cok G g n true su X W) {f : Nat} {d : DefT} {ces : CEs} {es : List Expr} (hd : G.defs[f]? = some d) (hc : d.cls = none) (hn : d.name = x) (hm : nmOk x = true) (hg : glB X.env.scope x = true) (hp : (e :: es).all plainX = true)
    (ha : PA X (e :: es) (LA g su W (evEs G (Tk.call G n) ces))) : PE X (.Call (.Name x p1) (e :: es) [] pos) (LT g su W (evE G (Tk.call G n) (.call f ces))) := by
  obtain ⟨p, fd, ps, F, hb, hlp, hk, hmg, _⟩ := C.calls f d hd
  have hK := C.K
  rw [hK] at F hb hk
  have hmg := hmg hc
  rw [hn] at hmg
  rw [List.all_cons, Bool.and_eq_true] at hp
  refine PE.imp (pe_callS (E := WE W) F ((C.cm rfl).2.1.mono (Nat.le_add_right _ _)) (gl_of hg) hmg hk hb (passAt C.tk) ha (nm_of hm).1 (star_cons hp.1) (star_plain hp.2)) fun σ H Q h => ?_
  obtain ⟨c, S, ρ, o, at_, h⟩ := h.open
  rw [evE] at h
  exact LA.then at_ h fun ds S1 vs H1 c1 q a1 h1 => kCall_go C hd a1.su q.s q.r h1

/-! ### methods -/
def tMethD (X : Cx) (k : Nat) (m : Str) (W : WX) (ta : TE) (t : TA) : TE := fun σ H Q => ta σ H fun x H1 => ∃ (C f : Addr) (fd : FuncData) (ps : List Str) (sp : Sp), Cls X.K C ∧ Meth X.K C m f ∧ FnOk X.prog X.w X.K X.mg X.base (L2.CX X.prog X.w) k f fd ps sp ∧ L2.Binds X.K fd ps [] ∧
  ∃ a dx fs, x = .ref a ∧ H1 a = some (.ins C dx fs) ∧ fs.lookup m = none ∧ t σ H1 fun vs H2 => sp (x :: vs) H2 Q (WE W σ)
theorem pe_methD {k : Nat} {m : Str} {ta : TE} {t : TA} {es : List Expr} (tk : Takes X W) (h1 : attrB a = true) (h2 : (e :: es).all plainX = true) (h3 : (e :: es).length < 30) (h4 : (apos.endLine == pos.line) = true) (he : PE X a ta) (hr : Room k X.A) (ha : PA X (e :: es) t) :
    PE X (.Call (.Attribute a m apos) (e :: es) [] pos) (tMethD X k m W ta t) := by
  obtain ⟨pl, ht⟩ := meth_eval a m apos pos (e :: es) X h1 h2 h3 h4
  rw [List.all_cons, Bool.and_eq_true] at h2
  refine ⟨fun pins s σ H Q I h => ?_⟩
  refine PySem.W.methodCall_KW (pl := pl) (thn (he.run pins s σ H _ I h) fun u s1 ⟨x, H1, I1, rx, C, f, fd, ps, sp, cl, hm, F, hb, p, dx, fs, ex, ea, l, q⟩ => ?_) ht
  subst ex
  obtain rfl : u = Value.ref p := rx
  refine getmeth_ok I1 ea cl hm l ?_
  refine PySem.W.callWith_K (first := [.ref p]) (h₀ := X.base) I.ok.mod.kin hm.kp (thn (ha.run pos pins s1 σ H1 _ I1 q) fun us s2 ⟨vs, H2, I2, r, q2⟩ => ⟨I2.kIn, ?_⟩) (star_cons h2.1) (star_plain h2.2)
  exact run_fnS (E := WE W) (us := .ref p :: us) (vs := .ref p :: vs) F hr hb (passAt tk σ) I2 (.cons rfl r) q2
theorem pe_methD0 {k : Nat} {m : Str} {ta : TE} (tk : Takes X W) (h1 : attrB a = true) (h4 : (apos.endLine == pos.line) = true) (he : PE X a ta) (hr : Room k X.A) : PE X (.Call (.Attribute a m apos) [] [] pos) (tMethD X k m W ta tNil) := by
  obtain ⟨pl, ht⟩ := meth_eval a m apos pos [] X h1 rfl (by decide) h4
  refine ⟨fun pins s σ H Q I h => ?_⟩
  refine PySem.W.methodCall_KW (pl := pl) (thn (he.run pins s σ H _ I h) fun u s1 ⟨x, H1, I1, rx, C, f, fd, ps, sp, cl, hm, F, hb, p, dx, fs, ex, ea, l, q⟩ => ?_) ht
  subst ex
  obtain rfl : u = Value.ref p := rx
  refine getmeth_ok I1 ea cl hm l ?_
  exact PySem.W.callWith_K0 (first := [.ref p]) I1.kIn hm.kp (run_fnS (E := WE W) (us := [.ref p]) (vs := [.ref p]) F hr hb (passAt tk σ) I1 (.cons rfl .nil) q)
theorem zip_none : ∀ {ys : List Str} {vs : List V} {x : Str}, x ∉ ys → (ys.zip vs).lookup x = none
  | [], vs, x, h => by simp
  | y :: ys, [], x, h => by simp
  | y :: ys, v :: vs, x, h => by
    rw [List.zip_cons_cons, List.lookup_cons]
    have : (x == y) = false := by simpa using fun z => h (by rw [z]; exact List.mem_cons_self)
    rw [this]
    exact zip_none fun z => h (List.mem_cons_of_mem _ z)
/-- an instance: told whole, or a cell -/
theorem inst_of (C : Cok G g n cm su X W) {d : D} {v : V} {k : Nat} {cc : ClsT} (r : RelS g c H S) (hv : RepT g c H d v) (hk : clsOf d S = some k) (hc : G.clss[k]? = some cc) :
    ∃ a dx fs, v = .ref a ∧ H a = some (.ins (g.ca k) dx fs) ∧ ∀ x, x ∉ cc.fields → fs.lookup x = none := by
  cases d with
  | obj j fs =>
    cases hk
    obtain ⟨z, dx, vs, e1, e2, e3, e4⟩ := obj_of hv
    exact ⟨z, dx, _, e1, e2.1, fun x hx => zip_none (by rw [C.st.cf _ _ hc]; exact hx)⟩
  | loc l =>
    change Rep g c H _ v at hv; rw [Rep] at hv
    obtain ⟨z, e1, e2⟩ := hv
    replace hk : (match S[l]? with
      | some (.ins k _) => some k
      | _ => none) = some k := hk
    cases w : S[l]? with
    | none => rw [w] at hk; cases hk
    | some ce =>
      rw [w] at hk
      cases ce with
      | lst xs => cases hk
      | ins j fs =>
        cases hk
        obtain ⟨dx, vs, f1, f2, f3⟩ := (show CellOk g c H z (.ins _ fs) from r.ok l _ z w e2)
        exact ⟨z, dx, _, e1, f1, fun x hx => zip_none fun q => hx (by rw [← C.st.cf _ _ hc]; exact List.mem_of_mem_take q)⟩
  | _ => cases hk
theorem methOf_some {d : D} {S : Sto} {m f : Nat} (h : methOf G d S m = some f) : ∃ k cc p, clsOf d S = some k ∧ G.clss[k]? = some cc ∧ p ∈ cc.meths ∧ p.1 = m ∧ p.2 = f := by
  unfold methOf at h
  split at h
  · rename_i k hk
    split at h
    · rename_i cc hc
      split at h
      · rename_i p hp
        have h1 := List.mem_of_find?_eq_some hp
        have h2 := List.find?_some hp
        exact ⟨k, cc, p, hk, hc, h1, by simpa using h2, Option.some.inj h⟩
      · cases h
    · cases h
  · cases h
theorem meth_go (C : Cok G g n true su X W) {m : Nat} {t : TA} {er : Sto → R (List D)} {d : D} {v : V} (hx : G.attrs[m]? = some x) (hsu : c.su = su) (r : RelS g c H S) (hv : RepT g c H d v) (h : Post g c H (fun cls dx H' => W cls dx σ H') Q (kMeth G (Tk.call G n) m er d S))
    (ht : ∀ (f : Nat) (Q1 : List V → Hp → Prop), Post g c H (fun cls dx H' => W cls dx σ H') Q ((er S).bind (kMeth2 (Tk.call G n) f d)) →
      (∀ ds S' vs H' c', Gots g c H c' H' ds vs S' → c'.su = su → Post g c' H' (fun cls dx H' => W cls dx σ H') Q (kMeth2 (Tk.call G n) f d ds S') → Q1 vs H') → t σ H Q1) :
    ∃ (C f : Addr) (fd : FuncData) (ps : List Str) (sp : Sp), Cls X.K C ∧ Meth X.K C x f ∧ FnOk X.prog X.w X.K X.mg X.base (L2.CX X.prog X.w) (lv n) f fd ps sp ∧ L2.Binds X.K fd ps [] ∧
      ∃ a dx fs, v = .ref a ∧ H a = some (.ins C dx fs) ∧ fs.lookup x = none ∧ t σ H fun vs H2 => sp (v :: vs) H2 Q (WE W σ) := by
  replace h : Post g c H (fun cls dx H' => W cls dx σ H') Q (kMeth1 (Tk.call G n) er d S (methOf G d S m)) := h
  cases q : methOf G d S m with
  | none => rw [q] at h; exact h.elim
  | some f =>
    rw [q] at h
    replace h : Post g c H (fun cls dx H' => W cls dx σ H') Q ((er S).bind (kMeth2 (Tk.call G n) f d)) := h
    obtain ⟨k, cc, p, e1, e2, e3, e4, e5⟩ := methOf_some q
    obtain ⟨hk, dd, y, h1, h2, h3, h4, h5⟩ := C.wf.meths k cc p e2 e3
    rw [e4, hx] at h3
    cases h3
    rw [e5] at h1
    obtain ⟨a, fd, ps, F, hb, hlp, hkp, _, hme⟩ := C.calls f dd h1
    obtain ⟨M, _⟩ := hme k h2
    have hcl := C.st.cls k hk
    have hK := C.K
    rw [h4] at M
    rw [hK] at F hb M hcl
    obtain ⟨z, dx, fs, g1, g2, g3⟩ := inst_of C r hv e1 e2
    refine ⟨g.ca k, a, fd, ps, _, hcl, M, F, hb, z, dx, fs, g1, g2, g3 x h5, ht f _ h fun ds S' vs H' c' gg hs' hp => ?_⟩
    unfold kMeth2 at hp
    cases w : fzs (d :: ds) with
    | none => rw [w] at hp; exact hp.elim
    | some xs =>
      rw [w] at hp
      have hR : RepTs g c' H' (d :: ds) (v :: vs) := ⟨v, vs, rfl, hv.ext gg.e, gg.r⟩
      exact spF_of C h1 hs' gg.s (hR.rest w) hp
theorem s_meth0 (C : Cok G g n true su X W) {ce : CE} {m : Nat} (h1 : attrB a = true) (h4 : (apos.endLine == pos.line) = true) (hx : G.attrs[m]? = some x) (ha : PE X a (LT g su W (evE G (Tk.call G n) ce))) :
    PE X (.Call (.Attribute a x apos) [] [] pos) (LT g su W (evE G (Tk.call G n) (.meth ce m .nil))) := by
  refine PE.imp (pe_methD0 (k := lv n) C.tk h1 h4 ha ((C.cm rfl).2.1.mono (Nat.le_add_right _ _))) fun σ H Q h => ?_
  obtain ⟨c, S, ρ, o, at_, h⟩ := h.open
  rw [evE] at h
  refine LT.mk at_ (Post.bind h fun d S1 v H1 c1 _ q1 h1 => ?_)
  have a1 := at_.go q1.e q1.s
  refine meth_go C hx a1.su a1.s q1.r h1 fun f Q1 h2 hk => ?_
  rw [evEs] at h2
  exact hk [] S1 [] H1 c1 ⟨E.refl _ _, rfl, a1.s⟩ a1.su h2
theorem s_meth (C : Cok G g n true su X W) {ce : CE} {ces : CEs} {es : List Expr} {m : Nat} (h1 : attrB a = true) (h2 : (e :: es).all plainX = true) (h3 : (e :: es).length < 30) (h4 : (apos.endLine == pos.line) = true) (hx : G.attrs[m]? = some x)
    (ha : PE X a (LT g su W (evE G (Tk.call G n) ce))) (hes : PA X (e :: es) (LA g su W (evEs G (Tk.call G n) ces))) :
    PE X (.Call (.Attribute a x apos) (e :: es) [] pos) (LT g su W (evE G (Tk.call G n) (.meth ce m ces))) := by
  refine PE.imp (pe_methD (k := lv n) C.tk h1 h2 h3 h4 ha ((C.cm rfl).2.1.mono (Nat.le_add_right _ _)) hes) fun σ H Q h => ?_
  obtain ⟨c, S, ρ, o, at_, h⟩ := h.open
  rw [evE] at h
  refine LT.mk at_ (Post.bind h fun d S1 v H1 c1 _ q1 h1 => ?_)
  have a1 := at_.go q1.e q1.s
  refine meth_go C hx a1.su a1.s q1.r h1 fun f Q1 h2 hk => ?_
  exact LA.then a1 h2 fun ds S' vs H' c' gg a2 hp => hk ds S' vs H' c' gg a2.su hp

/-! ### makings -/
mutual
theorem Rep.iso (hf : ∀ a o, Fx c H a o → Fx c' H' a o) : ∀ (d : D) (v : V), nol d = true → Rep g c H d v → Rep g c' H' d v
  | .non, v, _, h => by rw [Rep] at h ⊢; exact h
  | .bl b, v, _, h => by rw [Rep] at h ⊢; exact h
  | .int i, v, _, h => by rw [Rep] at h ⊢; exact h
  | .str s, v, _, h => by rw [Rep] at h ⊢; exact h
  | .dic0, v, _, h => by
    rw [Rep] at h ⊢
    obtain ⟨a, h1, h2⟩ := h
    exact ⟨a, h1, hf _ _ h2⟩
  | .tup xs, v, n, h => by
    rw [Rep] at h ⊢
    obtain ⟨a, vs, h1, h2, h3⟩ := h
    exact ⟨a, vs, h1, h2.imp (hf _ _) id, Reps.iso hf xs vs n h3⟩
  | .lst xs, v, n, h => by
    rw [Rep] at h ⊢
    obtain ⟨a, vs, h1, h2, h3⟩ := h
    exact ⟨a, vs, h1, hf _ _ h2, Reps.iso hf xs vs n h3⟩
  | .obj k fs, v, n, h => by
    rw [Rep] at h ⊢
    obtain ⟨a, dx, vs, h1, h2, h3, h4⟩ := h
    exact ⟨a, dx, vs, h1, hf _ _ h2, h3, Reps.iso hf fs vs n h4⟩
  | .scr xs, v, n, h => by cases n
  | .new xs, v, n, h => by rw [Rep] at h; exact h.elim
  | .own i xs, v, n, h => by cases n
  | .loc k, v, n, h => by cases n
  | .exn k fs, v, n, h => by cases n
theorem Reps.iso (hf : ∀ a o, Fx c H a o → Fx c' H' a o) : ∀ (ds : List D) (vs : List V), nols ds = true → Reps g c H ds vs → Reps g c' H' ds vs
  | [], vs, _, h => by rw [Reps] at h ⊢; exact h
  | d :: ds, vs, n, h => by
    rw [Reps] at h ⊢
    obtain ⟨v, r, h1, h2, h3⟩ := h
    replace n : (nol d && nols ds) = true := n
    rw [Bool.and_eq_true] at n
    exact ⟨v, r, h1, Rep.iso hf d v n.1 h2, Reps.iso hf ds r n.2 h3⟩
end
/-- a making, from what its __init__ leaves in a store of its own -/
theorem make_go (C : Cok G g n true su X W) {k f : Nat} {dd : DefT} {cc : ClsT} {ds : List D} {vs : List V} (hd : G.defs[f]? = some dd) (hc : G.clss[k]? = some cc) (hsu : c.su = su) (r : RelS g c H S) (hr : RepTs g c H ds vs)
    (h : Post g c H (fun cls dx H' => W cls dx σ H') Q (kMake G (Tk.call G n) k f ds S)) {z dz : Addr} (hz : H z = none) (hdz : H dz = none) (hne : dz ≠ z) :
    SpF g (Tk.call G n) dd.np f (.ref z :: vs) (upd (upd H dz (.own z)) z (.ins (g.ca k) dz [])) (fun v H2 => v = .non ∧ Q (.ref z) H2) (WE W σ) := by
  unfold kMake at h
  cases q : fzs ds with
  | none => rw [q] at h; exact h.elim
  | some xs =>
    rw [q] at h
    dsimp only at h
    by_cases hn : nols xs = true
    · rw [if_pos hn] at h
      have hs0 : su = none := (C.cm rfl).2.2
      have hxs := hr.rest q
      have hnm : z ∉ c.m := fun q => r.there z q hz
      have hcf : (g.cf k).length = nflds G k := by unfold nflds; rw [hc, C.st.cf k cc hc]
      -- the store of its own
      have keep1 : ∀ b ob, H b = some ob → upd (upd H dz (.own z)) z (.ins (g.ca k) dz []) b = some ob := fun b ob hb => by
        rw [upd_ne (ne_of_none hb hz), upd_ne (ne_of_none hb hdz)]; exact hb
      have hin : ∀ a ob, Fx c H a ob → Fx ⟨[z], c.m ++ c.x, none⟩ (upd (upd H dz (.own z)) z (.ins (g.ca k) dz [])) a ob := fun a ob ⟨h1, h2, h3⟩ =>
        ⟨keep1 _ _ h1, (fun (q : a ∈ [z]) => by rw [List.mem_singleton] at q; subst q; rw [hz] at h1; cases h1), fun q => (List.mem_append.mp q).elim h2 h3⟩
      have r0 : RelS g ⟨[z], c.m ++ c.x, none⟩ (upd (upd H dz (.own z)) z (.ins (g.ca k) dz [])) [.ins k []] := {
        nd := by simp
        len := rfl
        x := fun a ha => by
          have : H a ≠ none := by
            rcases List.mem_append.mp ha with q | q
            · exact r.there a q
            · exact (r.x a q).2
          refine ⟨fun q => by rw [List.mem_singleton] at q; exact this (by rw [q]; exact hz), ?_⟩
          cases w : H a with
          | none => exact absurd w this
          | some ob => rw [keep1 _ _ w]; exact fun z => nomatch z
        ok := fun j ce a h1 h2 => by
          cases j with
          | zero =>
            have e1 : Cell.ins k [] = ce := by simpa using h1
            have e2 : z = a := by simpa using h2
            subst e1 e2
            exact ⟨dz, [], by rw [upd_same]; simp, by simp, Reps.nil⟩
          | succ j => simp at h1 }
      -- what comes back
      have back : ∀ {c2 : Ct} {H2 : Hp}, E ⟨[z], c.m ++ c.x, none⟩ (upd (upd H dz (.own z)) z (.ins (g.ca k) dz [])) c2 H2 → E c H c H2 ∧ RelS g c H2 S ∧ (∀ a ob, Fx c2 H2 a ob → Fx c H2 a ob) := by
        intro c2 H2 e
        have keep2 : ∀ b ob, H b = some ob → H2 b = some ob := fun b ob hb => (e.keep b ob (keep1 b ob hb) fun q => by rw [List.mem_singleton] at q; rw [q, hz] at hb; cases hb).1
        have e1 : E c H c H2 := ⟨List.prefix_refl _, rfl, rfl, fun b ob h1 h2 => ⟨keep2 b ob h1, h2⟩, fun b hb => by
          cases w : H b with
          | none => exact absurd w hb
          | some ob => rw [keep2 _ _ w]; exact fun z => nomatch z⟩
        refine ⟨e1, ⟨r.nd, r.len, fun a ha => ⟨(r.x a ha).1, e1.dom a (r.x a ha).2⟩, fun j ce a h1 h2 => (r.ok j ce a h1 h2).cy e1.cy fun ob w => keep2 a ob w⟩, fun a ob ⟨h1, h2, h3⟩ => ?_⟩
        rw [e.x] at h3
        exact ⟨h1, fun q => h3 (List.mem_append_left _ q), fun q => h3 (List.mem_append_right _ q)⟩
      have hl : Reps g ⟨[z], c.m ++ c.x, none⟩ (upd (upd H dz (.own z)) z (.ins (g.ca k) dz [])) (.loc 0 :: xs) (.ref z :: vs) := Reps.cons (by rw [Rep]; exact ⟨z, rfl, rfl⟩) (Reps.iso hin xs vs hn hxs)
      have hp : Post g ⟨[z], c.m ++ c.x, none⟩ (upd (upd H dz (.own z)) z (.ins (g.ca k) dz [])) (fun cls dx H' => W cls dx σ H') (fun v H2 => v = .non ∧ Q (.ref z) H2) (Tk.call G n f (.loc 0 :: xs) [.ins k []]) := by
        cases w : Tk.call G n f (.loc 0 :: xs) [.ins k []] with
        | bad => rw [w] at h; exact h.elim
        | err k2 fs S2 =>
          rw [w] at h
          have h' : Post g c H (fun cls dx H' => W cls dx σ H') Q (if nols fs then .err k2 fs S else .bad) := h
          by_cases hn2 : nols fs = true
          · rw [if_pos hn2] at h'
            intro H2 c2 dx e s x
            obtain ⟨b1, b2, b3⟩ := back e
            obtain ⟨ws, x1, x2, x3⟩ := x
            exact h' H2 c dx b1 b2 ⟨ws, x1, Reps.iso b3 fs ws hn2 x2, x3.imp id fun ⟨dd, y1, y2⟩ => ⟨dd, y1, b3 _ _ y2⟩⟩
          · rw [if_neg hn2] at h'; exact h'.elim
        | ok d S2 =>
          rw [w] at h
          cases d with
          | non =>
            cases S2 with
            | nil => exact h.elim
            | cons ce S3 =>
              cases S3 with
              | cons _ _ => cases ce <;> exact h.elim
              | nil =>
                cases ce with
                | lst _ => exact h.elim
                | ins k' fs =>
                  have h' : Post g c H (fun cls dx H' => W cls dx σ H') Q (if k' = k ∧ nols fs ∧ fs.length = nflds G k then .ok (.obj k fs) S else .bad) := h
                  by_cases hh : k' = k ∧ nols fs = true ∧ fs.length = nflds G k
                  · rw [if_pos hh] at h'
                    obtain ⟨rfl, hn2, hlen⟩ := hh
                    intro v H2 c2 gg
                    obtain ⟨b1, b2, b3⟩ := back gg.e
                    have hm : c2.m[0]? = some z := gg.e.cy.loc 0 z rfl
                    obtain ⟨dx, ws, y1, y2, y3⟩ := (show CellOk g c2 H2 z (.ins k' fs) from gg.s.ok 0 _ z rfl hm)
                    refine ⟨non_of gg.r, Post.now b2 (d := .obj k' fs) (v := .ref z) ?_ (fun _ q => by cases q) (Post.shift b1 h')⟩
                    show Rep g c H2 (.obj k' fs) (.ref z)
                    rw [Rep]
                    have e4 : fs.length = (g.cf k').length := by rw [hcf]; exact hlen
                    rw [e4, List.take_length] at y1
                    exact ⟨z, dx, ws, rfl, ⟨y1, hnm, fun q => (r.x z q).2 hz⟩, by rw [y3.length]; exact e4, Reps.iso b3 fs ws hn2 y3⟩
                  · rw [if_neg hh] at h'; exact h'.elim
          | _ => exact h.elim
      refine ⟨?_, _, _, _, rfl, r0, hl, hp⟩
      have e1 := hl.length
      rw [e1]
      exact call_np hd hp
    · rw [if_neg hn] at h; exact h.elim
theorem s_make (C : Cok G g n true su X W) {k f : Nat} {d : DefT} {cc : ClsT} {ces : CEs} {es : List Expr} (hc : G.clss[k]? = some cc) (hn : cc.name = x) (hd : G.defs[f]? = some d) (hdc : d.cls = some k) (hdn : d.name = ("__init__" : Str))
    (hm : nmOk x = true) (hg : glB X.env.scope x = true) (hp : (e :: es).all plainX = true) (ha : PA X (e :: es) (LA g su W (evEs G (Tk.call G n) ces))) :
    PE X (.Call (.Name x p1) (e :: es) [] pos) (LT g su W (evE G (Tk.call G n) (.make k f ces))) := by
  obtain ⟨p, fd, ps, F, hb, hlp, hk, _, hme⟩ := C.calls f d hd
  obtain ⟨_, M⟩ := hme k hdc
  have M := M hdn
  have hK := C.K
  rw [hK] at F hb M
  have hmg := C.st.mgc k cc hc
  rw [hn] at hmg
  rw [List.all_cons, Bool.and_eq_true] at hp
  refine PE.imp (pe_makeS (E := WE W) M F ((C.cm rfl).2.1.mono (by omega)) (gl_of hg) hmg hb (passAt C.tk) ha (nm_of hm).1 (star_cons hp.1) (star_plain hp.2)) fun σ H Q h => ?_
  obtain ⟨c, S, ρ, o, at_, h⟩ := h.open
  rw [evE] at h
  exact LA.then at_ h fun ds S1 vs H1 c1 q a1 h1 z dz hz hdz hne => make_go C hd hc a1.su q.s q.r h1 hz hdz hne
end
end Tk
/-! Core 15: targets, sources of loops. -/
namespace Tk
open PySem PySem.Spec PyProof.Rows L2

section
variable {G : Prog} {g : Wd} {n : Nat} {cm : Bool} {su : Su} {X : Cx} {W : WX} {c c' c2 : Ct} {H H' H2 : Hp} {S S' S2 : Sto} {ρ ρ' : Ev} {o : List (Nat × Addr)} {σ σ' : L2.St} {Q : VK} {ea eb ev : Ev → Sto → R D} {a b e x1 : Expr} {pos p1 p2 apos : Pos} {x : Str}

/-! ### targets -/
theorem RelE.set (re : RelE g c H o σ ρ) {d : D} {v : V} {i : Nat} (hv : Rep g c H d v) : RelE g c H o (σ.set i (some v)) (ρ.set i (.val d)) where
  len := by rw [List.length_set, List.length_set]; exact re.len
  val := fun j e h => by
    rw [List.getElem?_set] at h ⊢
    by_cases q : i = j
    · subst q
      rw [if_pos rfl] at h ⊢
      by_cases hl : i < ρ.length
      · rw [if_pos hl] at h
        cases h
        rw [re.len, if_pos hl]
        exact ⟨v, rfl, hv⟩
      · rw [if_neg hl] at h; cases h
    · rw [if_neg q] at h ⊢
      exact re.val j e h
  own := fun j xs h => by
    rw [List.getElem?_set] at h ⊢
    by_cases q : i = j
    · subst q
      rw [if_pos rfl] at h
      by_cases hl : i < ρ.length
      · rw [if_pos hl] at h; cases h
      · rw [if_neg hl] at h; cases h
    · rw [if_neg q] at h ⊢
      exact re.own j xs h
  exc := fun j k fs h => by
    rw [List.getElem?_set] at h ⊢
    by_cases q : i = j
    · subst q
      rw [if_pos rfl] at h
      by_cases hl : i < ρ.length
      · rw [if_pos hl] at h; cases h
      · rw [if_neg hl] at h; cases h
    · rw [if_neg q] at h ⊢
      exact re.exc j k fs h
  sub := re.sub
  uni := re.uni
/-- what a target does to the slots; vs: what is forgotten anyway -/
def wiped (ix : List Nat) (σ σ' : L2.St) : Prop := ∀ vs, (∀ i ∈ ix, i ∈ vs) → wipe σ' vs = wipe σ vs
theorem wipe_set {i : Nat} {z : Option V} : ∀ {vs : List Nat}, i ∈ vs → wipe (σ.set i z) vs = wipe σ vs := by
  intro vs h
  apply List.ext_getElem?
  intro j
  by_cases hj : j ∈ vs
  · have none1 : ∀ (τ : L2.St) (us : List Nat), j ∈ us → (wipe τ us)[j]? = if j < τ.length then some none else none := by
      intro τ us
      induction us with
      | nil => intro h; cases h
      | cons u us ih =>
        intro h
        unfold wipe
        rw [List.getElem?_set]
        by_cases q : u = j
        · subst q; rw [if_pos rfl, wipe_length]
        · rw [if_neg q]
          rcases List.mem_cons.mp h with z | z
          · exact absurd z.symm q
          · exact ih z
    rw [none1 _ _ hj, none1 _ _ hj, List.length_set]
  · rw [wipe_out hj, wipe_out hj, List.getElem?_set]
    by_cases q : i = j
    · subst q; exact absurd h hj
    · rw [if_neg q]
theorem wiped_set {i : Nat} {z : Option V} : wiped [i] σ (σ.set i z) := fun vs h => wipe_set (h i (by simp))
theorem wiped.cons {i : Nat} {is : List Nat} {z : Option V} (h : wiped is (σ.set i z) σ') : wiped (i :: is) σ σ' := fun vs hv => by
  rw [h vs fun j hj => hv j (List.mem_cons_of_mem _ hj)]
  exact wipe_set (hv i (by simp))
/-- the reading of a target -/
def LG (g : Wd) (tg : Tg) : TG := fun v σ H Q => ∃ c S ρ o d ρ', RelS g c H S ∧ RelE g c H o σ ρ ∧ RepT g c H d v ∧ bindT ρ tg d = some ρ' ∧ ∀ σ', RelE g c H o σ' ρ' → wiped (tgIx tg) σ σ' → Q σ' H
def LGs (g : Wd) (is : List Nat) : TGs := fun vs σ H Q => ∃ c S ρ o ds ρ', RelS g c H S ∧ RelE g c H o σ ρ ∧ Reps g c H ds vs ∧ setAll ρ is ds = some ρ' ∧ ∀ σ', RelE g c H o σ' ρ' → wiped is σ σ' → Q σ' H
theorem loc_of {sc : Scope} {x : Str} (h : locB sc x = true) : Loc sc x := by
  unfold locB at h
  split at h
  · rename_i q; exact .inl q
  · rename_i q; exact .inr q
  · cases h
theorem PG.imp {t t' : TG} (h : PG X e t) (i : ∀ v σ H Q, t' v σ H Q → t v σ H Q) : PG X e t' := ⟨fun pins s σ H v u Q I r q => h.run pins s σ H v u Q I r (i v σ H Q q)⟩
theorem PGs.imp {es : List Expr} {t t' : TGs} (h : PGs X es t) (i : ∀ v σ H Q, t' v σ H Q → t v σ H Q) : PGs X es t' := ⟨fun pins s σ H v u Q I r q => h.run pins s σ H v u Q I r (i v σ H Q q)⟩
theorem ckTs_nil {N : List Str} {sc : Scope} {es : List Expr} (h : ckTs N sc [] es = true) : es = [] := by
  cases es with
  | nil => rfl
  | cons _ _ => rw [ckTs] at h <;> first | cases h | (intros; rename_i z; cases z) | (intro z; cases z)
theorem ckTs_cons {N : List Str} {sc : Scope} {i : Nat} {is : List Nat} {es : List Expr} (h : ckTs N sc (i :: is) es = true) : ∃ x p fs, es = .Name x p :: fs ∧ N[i]? = some x ∧ locB sc x = true ∧ ckTs N sc is fs = true := by
  unfold ckTs at h
  split at h
  · exact absurd ‹i :: is = []› (by simp)
  · rename_i sc' i' is' x p fs z
    cases z
    simp only [Bool.and_eq_true, decide_eq_true_eq] at h
    exact ⟨x, p, fs, rfl, h.1.1, h.1.2, h.2⟩
  · cases h
theorem g_names {sc : Scope} (nd : X.N.Nodup) (hf : LocOk sc X) (is : List Nat) : ∀ {es : List Expr}, ckTs X.N sc is es = true → PGs X es (LGs g is) ∧ (assignEach es X.env).length = is.length ∧ (assignEach es X.env).findIdx? (·.1) = none := by
  induction is with
  | nil =>
    intro es h
    have := ckTs_nil h
    subst this
    refine ⟨PGs.imp pgs_nil fun vs σ H Q h => ?_, rfl, rfl⟩
    obtain ⟨c, S, ρ, o, ds, ρ', r, re, hv, hs, hk⟩ := h
    cases ds with
    | nil =>
      cases hs
      exact ⟨Reps.nil_iff.mp hv, hk σ re fun vs _ => rfl⟩
    | cons _ _ => cases hs
  | cons i is ih =>
    intro es h
    obtain ⟨x, p, fs, rfl, h1, h2, h3⟩ := ckTs_cons h
    obtain ⟨g1, g2, g3⟩ := ih h3
    refine ⟨PGs.imp (pgs_cons (pg_name nd h1 (hf _ h2).1 (hf _ h2).2) g1 rfl) fun vs σ H Q h => ?_, congrArg (· + 1) g2, ?_⟩
    · obtain ⟨c, S, ρ, o, ds, ρ', r, re, hv, hs, hk⟩ := h
      cases ds with
      | nil => cases hs
      | cons d ds =>
        obtain ⟨v, w, e1, e2, e3⟩ := Reps.cons_iff.mp hv
        exact ⟨v, w, e1, c, S, _, o, ds, ρ', r, re.set e2, e3, hs, fun σ' hr hw => hk σ' hr hw.cons⟩
    · show List.findIdx? (·.1) ((false, assign (.Name x p) X.env) :: assignEach fs X.env) = none
      rw [List.findIdx?_cons]
      simp [g3]
theorem pg_tl {X : Cx} {pos : Pos} {es : List Expr} {k : Nat} {t : TGs} {n : Nat} (hc : X.calm = true) (h : PGs X es t) (hn : (assignEach es X.env).length = n) (hst : (assignEach es X.env).findIdx? (·.1) = none) : PG X (.Tuple es k pos) (fun v σ H Q => gTup X.K n t v σ H Q ∨ gUnl X.K n t v σ H Q) :=
  ⟨fun pins s σ H v u Q I r hw => hw.elim (fun q => (pg_tup hc h hn hst).run pins s σ H v u Q I r q) fun q => (pg_unl hc h hn hst).run pins s σ H v u Q I r q⟩
theorem setAll_len : ∀ {is : List Nat} {ds : List D} {ρ ρ' : Ev}, setAll ρ is ds = some ρ' → ds.length = is.length := by
  intro is
  induction is with
  | nil => intro ds ρ ρ' h; cases ds <;> first | rfl | cases h
  | cons i is ih =>
    intro ds ρ ρ' h
    cases ds with
    | nil => cases h
    | cons d ds => exact congrArg (· + 1) (ih (show setAll _ is ds = some ρ' from h))
theorem g_tg {sc : Scope} (nd : X.N.Nodup) (hf : LocOk sc X) (hc : X.calm = true) (hK : g.K = X.K) {tg : Tg} (h : ckT X.N sc tg e = true) : PG X e (LG g tg) := by
  unfold ckT at h
  split at h
  · rename_i i x p
    simp only [Bool.and_eq_true, decide_eq_true_eq] at h
    refine PG.imp (pg_name nd h.1 (hf _ h.2).1 (hf _ h.2).2) fun v σ H Q q => ?_
    obtain ⟨c, S, ρ, o, d, ρ', r, re, hv, hs, hk⟩ := q
    unfold bindT at hs
    dsimp only at hs
    by_cases z : still d = true
    · rw [if_pos z] at hs
      cases hs
      exact hk _ (re.set (hv.rest z)) wiped_set
    · rw [if_neg z] at hs; cases hs
  · rename_i is fs _ _
    obtain ⟨g1, g2, g3⟩ := g_names (g := g) nd hf is h
    refine PG.imp (pg_tl hc g1 g2 g3) fun v σ H Q q => ?_
    obtain ⟨c, S, ρ, o, d, ρ', r, re, hv, hs, hk⟩ := q
    cases d with
    | tup ds =>
      obtain ⟨p, vs, e1, _, e3, e4, _⟩ := seq_at hK r hv (xs := ds) rfl
      exact .inl ⟨p, vs, e1, e4 _ rfl, by rw [e3.length]; exact setAll_len hs, c, S, ρ, o, ds, ρ', r, re, e3, hs, hk⟩
    | new ds =>
      obtain ⟨p, vs, e1, _, e3, _, e4⟩ := seq_at hK r hv (xs := ds) rfl
      exact .inr ⟨p, vs, e1, e4 (fun _ z => by cases z), by rw [e3.length]; exact setAll_len hs, c, S, ρ, o, ds, ρ', r, re, e3, hs, hk⟩
    | lst ds =>
      obtain ⟨p, vs, e1, _, e3, _, e4⟩ := seq_at hK r hv (xs := ds) rfl
      exact .inr ⟨p, vs, e1, e4 (fun _ z => by cases z), by rw [e3.length]; exact setAll_len hs, c, S, ρ, o, ds, ρ', r, re, e3, hs, hk⟩
    | _ => cases hs
  · cases h

/-! ### sources -/
/-- the iterator J yields xs, as long as P says how the heap stands -/
def ItOk (g : Wd) (P : Ct → Hp → Prop) (xs : List D) (J : L2.It) : Prop := ∀ c2 H2 S2, P c2 H2 → RelS g c2 H2 S2 → ∀ i, (xs.length ≤ i → J.stop i H2) ∧
  ∀ d, xs[i]? = some d → J.go i H2 ∧ ∀ x H3, J.yld i H2 x H3 → E c2 H2 c2 H3 ∧ RelS g c2 H3 S2 ∧ Rep g c2 H3 d x
/-- all but the cells is kept -/
def Kp (c : Ct) (H : Hp) (c' : Ct) (H' : Hp) : Prop := Cy c H c' H' ∧ ∀ b o, H b = some o → b ∉ c.m → H' b = some o
def ItR (g : Wd) (K : PySem.W.Frag) (c : Ct) (H : Hp) : It → L2.It → Prop
  | .fix xs, J => ItOk g (fun c2 H2 => Cy c H c2 H2) xs J
  | .ow xs, J => ItOk g (fun c2 H2 => Kp c H c2 H2) xs J
  | .dyn k, J => ∃ a, c.m[k]? = some a ∧ J = Itl K a
def PostI (g : Wd) (K : PySem.W.Frag) (c : Ct) (H : Hp) (W : WH) (Rr : L2.It → Hp → Prop) : R It → Prop
  | .ok t S' => ∀ H' c' J, E c H c' H' → RelS g c' H' S' → ItR g K c' H' t J → Rr J H'
  | .err k fs S' => ∀ H' c' dx, E c H c' H' → RelS g c' H' S' → XRep g c' H' k fs dx → W (.ref (g.ca k)) dx H'
  | .bad => False
def LI (g : Wd) (K : PySem.W.Frag) (su : Su) (W : WX) (ev : Ev → Sto → R It) : TI := fun σ H Rr =>
  ∃ c S ρ o, c.su = su ∧ RelS g c H S ∧ RelE g c H o σ ρ ∧ PostI g K c H (fun cls dx H' => W cls dx σ H') Rr (ev ρ S)
theorem PI.sem {tg it : Expr} {wi' : TI} (h : ∀ σ H Rr, wi' σ H Rr → ∃ wi, PI X tg it wi ∧ wi σ H Rr) : PI X tg it wi' := ⟨fun pins s σ H Rr I q => let ⟨_, p, q'⟩ := h σ H Rr q; p.run pins s σ H Rr I q'⟩
theorem PI.imp {tg it : Expr} {wi wi' : TI} (h : PI X tg it wi) (i : ∀ σ H Rr, wi' σ H Rr → wi σ H Rr) : PI X tg it wi' := ⟨fun pins s σ H Rr I q => h.run pins s σ H Rr I (i σ H Rr q)⟩
theorem PostI.shift {K : PySem.W.Frag} {WW : WH} {Rr : L2.It → Hp → Prop} {r : R It} (e : E c H c2 H2) (h : PostI g K c H WW Rr r) : PostI g K c2 H2 WW Rr r := by
  cases r with
  | ok d S' => exact fun H' c' J e' s q => h H' c' J (e.trans e') s q
  | err k fs S' => exact fun H' c' dx e' s x => h H' c' dx (e.trans e') s x
  | bad => exact h
theorem PostI.bind {K : PySem.W.Frag} {WW : WH} {Rr : L2.It → Hp → Prop} {r : R D} {k : D → Sto → R It} {Q1 : VK} (h : PostI g K c H WW Rr (r.bind k))
    (hk : ∀ d S' v H' c', r = .ok d S' → Got g c H c' H' d v S' → PostI g K c' H' WW Rr (k d S') → Q1 v H') : Post g c H WW Q1 r := by
  cases r with
  | ok d S' => exact fun v H' c' q => hk d S' v H' c' rfl q (PostI.shift q.e h)
  | err k fs S' => exact h
  | bad => exact h
theorem itl_ok {K : PySem.W.Frag} {P : Ct → Hp → Prop} {xs : List D} {p : Addr} (h : ∀ c2 H2, P c2 H2 → ∃ vs, SqL K H2 p vs ∧ Reps g c2 H2 xs vs) : ItOk g P xs (Itl K p) := by
  intro c2 H2 S2 hP r i
  obtain ⟨vs, h1, h2⟩ := h c2 H2 hP
  refine ⟨fun hi => ⟨vs, h1, by rw [h2.length]; exact hi⟩, fun d hd => ?_⟩
  obtain ⟨v, h3, h4⟩ := h2.get hd
  refine ⟨⟨vs, v, h1, h3⟩, fun x H3 ⟨e, q⟩ => ?_⟩
  subst e
  have := q vs h1
  rw [h3] at this
  cases this
  exact ⟨E.refl _ _, r, h4⟩
theorem itt_ok {K : PySem.W.Frag} {P : Ct → Hp → Prop} {xs : List D} {p : Addr} (h : ∀ c2 H2, P c2 H2 → ∃ vs, SqT K H2 p vs ∧ Reps g c2 H2 xs vs) : ItOk g P xs (Itt K p) := by
  intro c2 H2 S2 hP r i
  obtain ⟨vs, h1, h2⟩ := h c2 H2 hP
  refine ⟨fun hi => ⟨vs, h1, by rw [h2.length]; exact hi⟩, fun d hd => ?_⟩
  obtain ⟨v, h3, h4⟩ := h2.get hd
  refine ⟨⟨vs, v, h1, h3⟩, fun x H3 ⟨e, q⟩ => ?_⟩
  subst e
  have := q vs h1
  rw [h3] at this
  cases this
  exact ⟨E.refl _ _, r, h4⟩
theorem itr_ok {P : Ct → Hp → Prop} {lo : Int} {m : Nat} : ItOk g P (rngD lo m) (Itr lo m) := by
  intro c2 H2 S2 hP r i
  have hl : (rngD lo m).length = m := by simp [rngD]
  refine ⟨fun hi => by rw [hl] at hi; exact hi, fun d hd => ?_⟩
  have hi : i < m := by rw [← hl]; exact (List.getElem?_eq_some_iff.mp hd).1
  have ed : d = .int (lo + (i : Nat)) := by
    have := hd
    simp [rngD, hi] at this
    exact this.symm
  subst ed
  refine ⟨hi, fun x H3 ⟨e, q⟩ => ?_⟩
  subst e q
  exact ⟨E.refl _ _, r, by rw [Rep]⟩
theorem fx_list {K : PySem.W.Frag} {p : Addr} {vs : List V} (h : Fx c H p (.lst vs)) : SqL K H p vs := .inl (.inl h.1)
/-- a list value, walked: stays true under what E or Cy keeps -/
theorem isL_of {d : D} {v : V} {xs : List D} (hv : RepT g c H d v) (h : isL d = some xs) (K : PySem.W.Frag) :
    ∃ p, v = .ref p ∧ (∃ vs, SqL K H p vs) ∧ (∀ c2 H2, Kp c H c2 H2 → ∃ vs, SqL K H2 p vs ∧ Reps g c2 H2 xs vs) ∧ (isOw d = false → ∀ c2 H2, Cy c H c2 H2 → ∃ vs, SqL K H2 p vs ∧ Reps g c2 H2 xs vs) := by
  cases d with
  | lst ys =>
    cases h
    obtain ⟨p, vs, h1, h2, h3⟩ := rep_ref hv
    have k : ∀ c2 H2, Cy c H c2 H2 → ∃ vs, SqL K H2 p vs ∧ Reps g c2 H2 xs vs := fun c2 H2 e => ⟨vs, fx_list (e.fx _ _ h2), Reps.cy e _ _ h3⟩
    exact ⟨p, h1, ⟨vs, fx_list h2⟩, fun c2 H2 e => k c2 H2 e.1, fun _ => k⟩
  | new ys =>
    cases h
    obtain ⟨p, vs, h1, h2, h3⟩ := hv
    have k : ∀ c2 H2, Cy c H c2 H2 → ∃ vs, SqL K H2 p vs ∧ Reps g c2 H2 xs vs := fun c2 H2 e => ⟨vs, fx_list (e.fx _ _ h2), Reps.cy e _ _ h3⟩
    exact ⟨p, h1, ⟨vs, fx_list h2⟩, fun c2 H2 e => k c2 H2 e.1, fun _ => k⟩
  | own i ys =>
    cases h
    obtain ⟨p, vs, h1, h2, h3, h4⟩ := hv
    exact ⟨p, h1, ⟨vs, .inl (.inl h2)⟩, fun c2 H2 e => ⟨vs, .inl (.inl (e.2 _ _ h2 h3)), Reps.cy e.1 _ _ h4⟩, fun q => by cases q⟩
  | _ => cases h
theorem itR_list {d : D} {v : V} {xs : List D} (hv : RepT g c H d v) (h : isL d = some xs) (K : PySem.W.Frag) : ∃ p, v = .ref p ∧ (∃ vs, SqL K H p vs) ∧ ItR g K c H (itW (isOw d) xs) (Itl K p) := by
  obtain ⟨p, h1, h2, h3, h4⟩ := isL_of hv h K
  refine ⟨p, h1, h2, ?_⟩
  cases q : isOw d with
  | true => exact itl_ok h3
  | false => exact itl_ok (h4 q)
/-- a list or a tuple, walked -/
theorem i_seq (C : Cok G g n cm su X W) {tg : Expr} {ce : CE} (ha : PE X a (LT g su W (evE G (Tk.call G n) ce))) : PI X tg a (LI g X.K su W (evI G (Tk.call G n) (.seq ce))) := by
  have hK := C.K
  refine PI.sem fun σ H Rr h => ?_
  obtain ⟨c, S, ρ, o, hsu, r, re, h⟩ := h
  rw [evI] at h
  by_cases ht : ∃ ys S1, evE G (Tk.call G n) ce ρ S = .ok (.tup ys) S1
  · obtain ⟨ys, S1, he⟩ := ht
    refine ⟨_, pi_tup ha, LT.mk ⟨hsu, r, re⟩ (PostI.bind h fun d S' v H' c' hd q hp => ?_)⟩
    rw [he] at hd
    cases hd
    have hv := q.r
    change Rep g c' H' _ v at hv; rw [Rep] at hv
    obtain ⟨p, vs, h1, h2, h3⟩ := hv
    have k : ∀ c2 H2, Cy c' H' c2 H2 → ∃ vs, SqT X.K H2 p vs ∧ Reps g c2 H2 ys vs := fun c2 H2 e => ⟨vs, h2.elim (fun z => .inl (.inl (e.fx _ _ z).1)) fun z => .inr (by rw [← hK]; exact z), Reps.cy e _ _ h3⟩
    obtain ⟨vs', h4, _⟩ := k c' H' (E.refl _ _).cy
    exact ⟨p, h1, ⟨vs', h4⟩, hp H' c' _ (E.refl _ _) q.s (itt_ok k)⟩
  · refine ⟨_, pi_list ha, LT.mk ⟨hsu, r, re⟩ (PostI.bind h fun d S' v H' c' hd q hp => ?_)⟩
    have li : ∀ xs t, isL d = some xs → PostI g X.K c' H' (fun cls dx H' => W cls dx σ H') Rr (.ok t S') → t = itW (isOw d) xs → ∃ p, v = .ref p ∧ (∃ xs, SqL X.K H' p xs) ∧ Rr (Itl X.K p) H' := by
      intro xs t h1 h2 h3
      obtain ⟨p, e1, e2, e3⟩ := itR_list q.r h1 X.K
      rw [← h3] at e3
      exact ⟨p, e1, e2, h2 H' c' _ (E.refl _ _) q.s e3⟩
    cases d with
    | tup ys => exact absurd ⟨ys, S', hd⟩ ht
    | lst xs => exact li xs _ rfl hp rfl
    | new xs => exact li xs _ rfl hp rfl
    | scr xs =>
      have hv := q.r
      change Rep g c' H' _ v at hv; rw [Rep] at hv
      obtain ⟨p, vs, h1, h2, h3⟩ := hv
      have k : ∀ c2 H2, Cy c' H' c2 H2 → ∃ vs, SqL X.K H2 p vs ∧ Reps g c2 H2 xs vs := fun c2 H2 e => ⟨vs, by rw [← hK]; exact (h2.cy e).sq, Reps.cy e _ _ h3⟩
      exact ⟨p, h1, ⟨vs, by rw [← hK]; exact h2.sq⟩, hp H' c' _ (E.refl _ _) q.s (itl_ok k)⟩
    | own i xs => exact li xs _ rfl hp rfl
    | loc k =>
      have hv := q.r
      change Rep g c' H' _ v at hv; rw [Rep] at hv
      obtain ⟨p, h1, h2⟩ := hv
      obtain ⟨ce', h3, h4⟩ := q.s.at h2
      have hp' : PostI g X.K c' H' _ Rr (dynD k S' S'[k]?) := hp
      rw [h3] at hp'
      cases ce' with
      | lst xs =>
        obtain ⟨vs, h5, h6⟩ := h4
        exact ⟨p, h1, ⟨vs, .inl (.inl h5)⟩, hp' H' c' _ (E.refl _ _) q.s ⟨p, h2, rfl⟩⟩
      | ins _ _ => exact hp'.elim
    | _ => exact hp.elim
end
end Tk
/-! Core 35: enumerate over lists and tuples. -/
namespace Tk
open PySem PySem.Spec PyProof.Rows L2
theorem enumNew {v : Value} {o : Obj} {H : Heap → Prop} (B : Begins v o H) :
    Meets (Builtin.«enumerate.__new__» ⟨[.type "enumerate", v], []⟩) (fun _ R s => H s.heap ∧
      R (.ok (.ret (.ref (s.heap.push o).objs.size))) { s with heap := (s.heap.push o).push { cls := .type "enumerate", data := .fields #[.none, .bool false, .ref s.heap.objs.size, rawInt 0, .none, .none] } }) :=
  .of_wp fun prog w A R s h => by
    obtain ⟨hp, g, d, tk, os⟩ := s; obtain ⟨h1, h⟩ := h
    have hsub := sub_enumerate
    have q1 : ∀ {A' : Around} {E : Value → Shared → Prop} {Q : Value → Shared → Prop}, Q (.ref hp.objs.size) ⟨hp.push o, g, d, tk, os⟩ → wpAny (model prog w) A' (pyIter v) Q E ⟨hp, g, d, tk, os⟩ :=
      fun q => B.iter prog w _ _ ⟨hp, g, d, tk, os⟩ _ h1 q
    wp_walk using q1
    refine wpAny_stack_any fun st => wpAny_pure ?_
    split
    · rename_i c _ _ _ _ _
      cases (c == Value.type "enumerate")
      · wp_walk using q1
        exact ⟨_, rfl, h⟩
      · wp_walk using q1
        exact ⟨_, rfl, h⟩
    · wp_walk using q1
      exact ⟨_, rfl, h⟩
section
variable {prog : Program} {w : World} {A : Around} {E : Value → Shared → Prop} {s : Shared}
theorem enumCall {v : Value} {o : Obj} {H : Heap → Prop} {Q : Value → Shared → Prop} (B : Begins v o H) (h1 : H s.heap)
    (h : ∀ h', IsEnum h' (s.heap.objs.size + 1) s.heap.objs.size 0 .none → h'.get? s.heap.objs.size = some o →
      (∀ b o, s.heap.get? b = some o → h'.get? b = some o) → Q (.ref (s.heap.objs.size + 1)) { s with heap := h' }) :
    wpAny (model prog w) A (PySem.call (.type "enumerate") [v]) Q E s := by
  refine callType_new F.called_enumerate (by decide) (F.typeCall_enumerate_1 _) (F.newCall_enumerate_1 _) (fun obj => F.args_object_init_2 obj _) F.entry_enumerate_new (enumNew B) ⟨h1, ?_⟩
  have hz : (s.heap.push o).objs.size = s.heap.objs.size + 1 := Heap.size_push ..
  show _ ∧ _
  rw [hz]
  have he : IsEnum ((s.heap.push o).push { cls := .type "enumerate", data := .fields #[.none, .bool false, .ref s.heap.objs.size, rawInt 0, .none, .none] }) (s.heap.objs.size + 1) s.heap.objs.size 0 .none := by
    have := Heap.get?_push_size (s.heap.push o) (o := { cls := .type "enumerate", data := .fields #[.none, .bool false, .ref s.heap.objs.size, rawInt 0, .none, .none] }) rfl
    rw [hz] at this; exact this
  exact ⟨⟨_, he, rfl⟩, h _ he (Heap.get?_push_of_some _ (Heap.get?_push_size _ B.free)) fun b o x => Heap.get?_push_of_some _ (Heap.get?_push_of_some _ x)⟩
theorem enumEndT {e it l : Addr} {i : Nat} {items : Array Value} {old : Value} {Q : Option Value → Shared → Prop} (hh : A.handled = none)
    (he : IsEnum s.heap e it i old) (hit : s.heap.IsTupleIter it l i) (hl : s.heap.IsTuple l items) (hx : items[i]? = none)
    (hQ : ∀ h', Heap.ExtBut it s.heap h' → Q none { s with heap := h' }) : wpAny (model prog w) A (pyNext (.ref e)) Q E s := by
  have hT : s.TypeIs (.ref e) "enumerate" := ⟨_, he, rfl⟩
  unfold pyNext
  refine wpAny_bind (wpAny_attempt (wpAny_callSpecial?_slot (name := Str.ofString "__next__") hT F.slot_enumerate_next
    (wpAny_call_entry F.slot_enumerate_next hT F.entry_enumerate_next ?_ (F.args_enumerate_next_1 _))))
  show wpAny _ _ (field (.ref e) 2 >>= _) _ _ _
  refine wpAny_bind (wpAny_field he rfl (x := .ref it) rfl ?_)
  refine wpAny_bind (wpAny_nextOf_tuple_end (A := A.in1) (show A.in1.handled = none from hh) hit hl hx fun h' x he' hx' => ?_)
  obtain ⟨o, ho, hc⟩ := hx'
  refine wpAny_bind (wpAny_isInstance (T := "StopIteration") (b := true) ⟨o, ho, hc⟩ isSubtype_stop ?_)
  exact wpAny_pure (hQ _ he')
end
/-- the tuple at a, each item in a new pair -/
def IteT (K : PySem.W.Frag) (a : Addr) : L2.It :=
  ⟨fun i H => ∃ (xs : List V) (x : V), SqT K H a xs ∧ xs[i]? = some x, fun i H v H' => ∃ T x, v = .ref T ∧ H T = none ∧ H' = upd H T (.tup [.int (i : Nat), x]) ∧ ∀ xs, SqT K H a xs → xs[i]? = some x, fun i H => ∃ xs : List V, SqT K H a xs ∧ xs.length ≤ i⟩
theorem turn_enumT {P : Program} {w : World} {K : PySem.W.Frag} {elts : List Expr} {kk : Nat} {tpos : Pos} (a e it : Addr) :
    Turn P w K (.Tuple elts kk tpos) (IteT K a) [e, it] e (fun i h => (∃ old, IsEnum h e it ((i : Nat) : Int) old) ∧ h.IsTupleIter it a i ∧ e ≠ it) where
  mem := by simp
  obj := fun i h st b hb => by
    obtain ⟨⟨old, he⟩, ⟨o, ho, hc, hd⟩, _⟩ := st
    have e' : b = e ∨ b = it := by simpa using hb
    rcases e' with z | z
    · rw [z]; exact ⟨_, he, fun v q => nomatch q⟩
    · rw [z]; exact ⟨o, ho, fun v q => by rw [hd] at q; cases q⟩
  keep := fun i h h' st k => let ⟨⟨old, he⟩, hi, hne⟩ := st; ⟨⟨old, k e (by simp) _ he⟩, hi.at fun o q => k it (by simp) o q, hne⟩
  item := by
    intro X hP hw hK hc i pins s σ H E I hf st hg
    subst hP hw hK
    obtain ⟨⟨old, he⟩, hit, hne⟩ := st
    obtain ⟨xs, x, hq, hx⟩ := hg
    obtain ⟨its, rv, p, hz⟩ := I.tuple hq
    obtain ⟨u, hu, ru⟩ := rv.get hx
    have hel : e < s.heap.objs.size := Heap.lt_size he
    have hil : it < s.heap.objs.size := by obtain ⟨_, q, _⟩ := hit; exact Heap.lt_size q
    have pt : s.heap.IsTuple a its.toArray := p
    have hai : a ≠ it := by
      intro z
      obtain ⟨o1, e1, c1, _⟩ := hit
      obtain ⟨o2, e2, c2, _⟩ := pt
      rw [z, e1] at e2
      cases e2
      rw [c1] at c2; exact absurd (Value.type.inj c2) (by decide)
    have hea : e ≠ a := by
      intro z
      obtain ⟨o2, e2, c2, _⟩ := pt
      rw [← z, he] at e2
      cases e2
      exact absurd (Value.type.inj c2) (by decide)
    have hlt : i < its.toArray.size := by
      have := (List.getElem?_eq_some_iff.mp hu).1
      simpa using this
    have hh : X.A.in1.handled = none := I.ok.hd hc
    refine wpAny_pyNext_enum_itemD (Draws.tuple hh it a hai its.toArray) he ⟨hit, pt⟩ hlt hne (by simp [hne, hea]) fun y h' tk hPy ho hst' hT hsz hk => ?_
    have hy : y = u := by
      have h1 : its[i]? = some y := by simpa using hPy
      rw [hu] at h1
      cases h1; rfl
    subst hy
    refine ⟨_, rfl, wpAny_letOwnedTupleGo_enum (s := { s with heap := h', toks := tk + 1 }) ho fun h'' he' sb => ?_⟩
    have hT2 : h''.get? s.heap.objs.size = some { cls := .type "tuple", data := .seq #[.int i tk, y] } := (sb.2 _ (Nat.ne_of_gt hel)).trans hT
    have new : ObjOk X.prog X.w (upd H s.heap.objs.size (.tup [.int (i : Nat), x])) h'' s.heap.objs.size (.tup [.int (i : Nat), x]) :=
      ⟨by show 2 ≤ sizeLine; decide, [.int i tk, y], .cons ⟨_, rfl⟩ (.cons ru .nil), ⟨_, hT2, rfl, _, rfl⟩⟩
    have I1 : Inv X pins σ (upd H s.heap.objs.size (.tup [.int (i : Nat), x])) { s with heap := h'', toks := tk + 1 } :=
      I.turnedNew (ch := [e, it]) (fun b ob hb q => (sb.2 b (fun z => hb (by simp [z]))).trans (hk b ob (fun z => hb (by simp [z])) (fun z => hb (by simp [z])) q)) hf (Nat.le_refl _) new
    refine ⟨.ref s.heap.objs.size, _, I1, rfl, ⟨_, x, rfl, I.hok.fresh (Nat.le_refl _), rfl, fun ys hy => by rw [I.tuple_inj hy hq]; exact hx⟩, ⟨⟨y, ?_⟩, hst'.1.at fun o q => (sb.2 it (Ne.symm hne)).trans q, hne⟩, fun b hb => ?_⟩
    · have e1 : ((i + 1 : Nat) : Int) = (i : Int) + 1 := by omega
      rw [e1]; exact he'
    · have hb' : b < s.heap.objs.size := by
        have e' : b = e ∨ b = it := by simpa using hb
        rcases e' with z | z
        · rw [z]; exact hel
        · rw [z]; exact hil
      rw [upd_ne (Nat.ne_of_lt hb')]
      exact (hf b hb).1
  done := by
    intro X hP hw hK hc i pins s σ H E I hf st hg
    subst hP hw hK
    obtain ⟨⟨old, he⟩, hit, hne⟩ := st
    obtain ⟨xs, hq, hx⟩ := hg
    obtain ⟨its, rv, p, hz⟩ := I.tuple hq
    obtain ⟨f0, f1, f2, f3, f4, f5⟩ := hf it (by simp)
    have hl := rv.length
    have pt : s.heap.IsTuple a its.toArray := p
    exact enumEndT (I.ok.hd hc) he hit pt (by simp; omega) fun h' eb => ⟨rfl, I.turned (t' := s.toks) (fun b o hb q => eb b o hb q) f0 f1 f3 f4 f5⟩
  self := fun A i s Q E st h => let ⟨⟨_, he⟩, _⟩ := st; wpAny_pyIter_enum he h
/-- enumerate over a list or a tuple -/
def iEnumA (K : PySem.W.Frag) (ta : TA) : TI := fun σ H R => ta σ H fun vs H1 => ∃ a xs, vs = [.ref a] ∧ ((SqL K H1 a xs ∧ R (L2.Ite K a) H1) ∨ (SqT K H1 a xs ∧ R (IteT K a) H1))
theorem pi_enumA {X : Cx} {e : Expr} {ta : TA} {p pos tpos : Pos} {elts : List Expr} {kk : Nat} (hg : Gl X "enumerate") (hm : X.mg "enumerate" = none) (ha : PA X [e] ta) (hs : starEach [e] X.env = [(false, eval e X.env)] := by rfl) :
    PI X (.Tuple elts kk tpos) (.Call (.Name "enumerate" p) [e] [] pos) (iEnumA X.K ta) := by
  refine ⟨fun pins s σ H R I h => ?_⟩
  refine Call_ (ld_blt I hg hm boot_enumerate (PyProof.Rows.callWith_type1 (thn (ha.run pos pins s σ H _ I h) fun us s1 ⟨vs, H1, I1, r1, q1⟩ => ?_) hs rfl))
  obtain ⟨a, xs, ex, q⟩ := q1
  subst ex
  cases r1 with
  | cons r rr =>
    cases rr
    cases r
    have fresh : ∀ b, b ∈ [s1.heap.objs.size + 1, s1.heap.objs.size] → FpOk X pins H1 b := fun b hb => by
      have e' : b = s1.heap.objs.size + 1 ∨ b = s1.heap.objs.size := by simpa using hb
      have hle : s1.heap.objs.size ≤ b := by
        rcases e' with z | z
        · rw [z]; exact Nat.le_add_right _ _
        · rw [z]; exact Nat.le_refl _
      exact I1.fpOk hle (I1.hok.fresh hle)
    rcases q with ⟨hq, q⟩ | ⟨hq, q⟩
    · obtain ⟨its, rv, p', hz⟩ := I1.list hq
      refine call_enumerate_list p'.isList fun h' he hit hsz hk => wpAny_pyIter_enum he ?_
      have I2 : Inv X pins σ H1 { s1 with heap := h' } := I1.kept (t' := s1.toks) hk
      exact ⟨s1.heap.objs.size + 1, [s1.heap.objs.size + 1, s1.heap.objs.size], _, _, H1, rfl, I2, turn_enum a (s1.heap.objs.size + 1) s1.heap.objs.size, ⟨⟨.none, he⟩, hit, Nat.succ_ne_self _⟩, fresh, q⟩
    · obtain ⟨its, rv, p', hz⟩ := I1.tuple hq
      have pt : s1.heap.IsTuple a its.toArray := p'
      refine enumCall (begins_tuple a its.toArray) pt fun h' he hit hk => wpAny_pyIter_enum he ?_
      have I2 : Inv X pins σ H1 { s1 with heap := h' } := I1.kept (t' := s1.toks) hk
      exact ⟨s1.heap.objs.size + 1, [s1.heap.objs.size + 1, s1.heap.objs.size], _, _, H1, rfl, I2, turn_enumT a (s1.heap.objs.size + 1) s1.heap.objs.size, ⟨⟨.none, he⟩, ⟨_, hit, rfl, rfl⟩, Nat.succ_ne_self _⟩, fresh, q⟩
end Tk
/-! Core 16: ranges, enumerate, zip; comprehensions. -/
namespace Tk
open PySem PySem.Spec PyProof.Rows L2

section
variable {G : Prog} {g : Wd} {n : Nat} {cm : Bool} {su : Su} {X : Cx} {W : WX} {c c' c2 : Ct} {H H' H2 : Hp} {S S' S2 : Sto} {ρ ρ' : Ev} {o : List (Nat × Addr)} {σ σ' : L2.St} {Q : VK} {ea eb ev : Ev → Sto → R D} {a b e x1 : Expr} {pos p1 p2 apos : Pos} {x : Str}
theorem tup_new {p : Addr} {xs : List D} {vs : List V} (r : RelS g c H S) (hv : Reps g c H xs vs) (hp : H p = none) : E c H c (upd H p (.tup vs)) ∧ RelS g c (upd H p (.tup vs)) S ∧ Rep g c (upd H p (.tup vs)) (.tup xs) (.ref p) := by
  have e : E c H c (upd H p (.tup vs)) := E.upd r.there hp
  refine ⟨e, r.upd hp, ?_⟩
  rw [Rep]
  exact ⟨p, vs, rfl, .inl ⟨upd_same, fun z => r.there p z hp, fun z => (r.x p z).2 hp⟩, Reps.cy e.cy _ _ hv⟩
theorem enumD_at : ∀ {xs : List D} {s i : Nat} {d : D}, (enumD s xs)[i]? = some d → ∃ x, xs[i]? = some x ∧ d = .tup [.int ((s + i : Nat) : Int), x]
  | [], s, i, d, h => by simp [enumD] at h
  | x :: xs, s, 0, d, h => by
    simp [enumD] at h
    exact ⟨x, rfl, by simpa using h.symm⟩
  | x :: xs, s, i + 1, d, h => by
    have h' : (enumD (s + 1) xs)[i]? = some d := by simpa [enumD] using h
    obtain ⟨y, h1, h2⟩ := enumD_at h'
    exact ⟨y, by simpa using h1, by rw [h2]; have : s + 1 + i = s + (i + 1) := by omega
                                    rw [this]⟩
theorem enumD_length : ∀ {xs : List D} {s : Nat}, (enumD s xs).length = xs.length
  | [], _ => rfl
  | x :: xs, s => congrArg (· + 1) (enumD_length (xs := xs))
theorem ite_ok {K : PySem.W.Frag} {P : Ct → Hp → Prop} {xs : List D} {p : Addr} (h : ∀ c2 H2, P c2 H2 → ∃ vs, SqL K H2 p vs ∧ Reps g c2 H2 xs vs) : ItOk g P (enumD 0 xs) (Ite K p) := by
  intro c2 H2 S2 hP r i
  obtain ⟨vs, h1, h2⟩ := h c2 H2 hP
  refine ⟨fun hi => ⟨vs, h1, by rw [h2.length]; rw [enumD_length] at hi; exact hi⟩, fun d hd => ?_⟩
  obtain ⟨y, hy, rfl⟩ := enumD_at hd
  obtain ⟨v, h3, h4⟩ := h2.get hy
  refine ⟨⟨vs, v, h1, h3⟩, fun x H3 ⟨T, w, e1, e2, e3, q⟩ => ?_⟩
  have := q vs h1
  rw [h3] at this
  cases this
  subst e1 e3
  rw [Nat.zero_add]
  exact tup_new r (Reps.cons (by rw [Rep]) (Reps.cons h4 Reps.nil)) e2
theorem iteT_ok {K : PySem.W.Frag} {P : Ct → Hp → Prop} {xs : List D} {p : Addr} (h : ∀ c2 H2, P c2 H2 → ∃ vs, SqT K H2 p vs ∧ Reps g c2 H2 xs vs) : ItOk g P (enumD 0 xs) (IteT K p) := by
  intro c2 H2 S2 hP r i
  obtain ⟨vs, h1, h2⟩ := h c2 H2 hP
  refine ⟨fun hi => ⟨vs, h1, by rw [h2.length]; rw [enumD_length] at hi; exact hi⟩, fun d hd => ?_⟩
  obtain ⟨y, hy, rfl⟩ := enumD_at hd
  obtain ⟨v, h3, h4⟩ := h2.get hy
  refine ⟨⟨vs, v, h1, h3⟩, fun x H3 ⟨T, w, e1, e2, e3, q⟩ => ?_⟩
  have := q vs h1
  rw [h3] at this
  cases this
  subst e1 e3
  rw [Nat.zero_add]
  exact tup_new r (Reps.cons (by rw [Rep]) (Reps.cons h4 Reps.nil)) e2
theorem zipD_at : ∀ {xs ys : List D} {i : Nat} {d : D}, (zipD xs ys)[i]? = some d → ∃ x y, xs[i]? = some x ∧ ys[i]? = some y ∧ d = .tup [x, y]
  | [], ys, i, d, h => by simp [zipD] at h
  | x :: xs, [], i, d, h => by simp [zipD] at h
  | x :: xs, y :: ys, 0, d, h => by
    simp [zipD] at h
    exact ⟨x, y, rfl, rfl, h.symm⟩
  | x :: xs, y :: ys, i + 1, d, h => by
    have h' : (zipD xs ys)[i]? = some d := by simpa [zipD] using h
    obtain ⟨z, w, h1, h2, h3⟩ := zipD_at h'
    exact ⟨z, w, by simpa using h1, by simpa using h2, h3⟩
theorem zipD_length : ∀ {xs ys : List D}, (zipD xs ys).length = min xs.length ys.length
  | [], ys => by simp [zipD]
  | x :: xs, [] => by simp [zipD]
  | x :: xs, y :: ys => by simp [zipD, zipD_length (xs := xs) (ys := ys)]
theorem itz_ok {K : PySem.W.Frag} {P : Ct → Hp → Prop} {xs ys : List D} {p q : Addr} (h : ∀ c2 H2, P c2 H2 → (∃ vs, SqL K H2 p vs ∧ Reps g c2 H2 xs vs) ∧ ∃ ws, SqL K H2 q ws ∧ Reps g c2 H2 ys ws) : ItOk g P (zipD xs ys) (Itz K p q) := by
  intro c2 H2 S2 hP r i
  obtain ⟨⟨vs, h1, h2⟩, ws, h1', h2'⟩ := h c2 H2 hP
  refine ⟨fun hi => ⟨vs, ws, h1, h1', by rw [h2.length, h2'.length]; rw [zipD_length] at hi; omega⟩, fun d hd => ?_⟩
  obtain ⟨y, z, hy, hz, rfl⟩ := zipD_at hd
  obtain ⟨v, h3, h4⟩ := h2.get hy
  obtain ⟨w, h3', h4'⟩ := h2'.get hz
  refine ⟨⟨vs, ws, v, w, h1, h1', h3, h3'⟩, fun x H3 ⟨T, u1, u2, e1, e2, e3, q1, q2⟩ => ?_⟩
  have e4 := q1 vs h1
  have e5 := q2 ws h1'
  rw [h3] at e4
  rw [h3'] at e5
  cases e4
  cases e5
  subst e1 e3
  exact tup_new r (Reps.cons h4 (Reps.cons h4' Reps.nil)) e2

theorem itzT_ok {K : PySem.W.Frag} {P : Ct → Hp → Prop} {xs ys : List D} {p q : Addr} (h : ∀ c2 H2, P c2 H2 → (∃ vs, SqT K H2 p vs ∧ Reps g c2 H2 xs vs) ∧ ∃ ws, SqT K H2 q ws ∧ Reps g c2 H2 ys ws) : ItOk g P (zipD xs ys) (RZ.ItzT K p q) := by
  intro c2 H2 S2 hP r i
  obtain ⟨⟨vs, h1, h2⟩, ws, h1', h2'⟩ := h c2 H2 hP
  refine ⟨fun hi => ⟨vs, ws, h1, h1', by rw [h2.length, h2'.length]; rw [zipD_length] at hi; omega⟩, fun d hd => ?_⟩
  obtain ⟨y, z, hy, hz, rfl⟩ := zipD_at hd
  obtain ⟨v, h3, h4⟩ := h2.get hy
  obtain ⟨w, h3', h4'⟩ := h2'.get hz
  refine ⟨⟨vs, ws, v, w, h1, h1', h3, h3'⟩, fun x H3 ⟨T, u1, u2, e1, e2, e3, q1, q2⟩ => ?_⟩
  have e4 := q1 vs h1
  have e5 := q2 ws h1'
  rw [h3] at e4
  rw [h3'] at e5
  cases e4
  cases e5
  subst e1 e3
  exact tup_new r (Reps.cons h4 (Reps.cons h4' Reps.nil)) e2

theorem i_range1 (C : Cok G g n cm su X W) {tg : Expr} {ce : CE} (hx : x = "range") (hg : glB X.env.scope x = true) (hp : plainX a = true) (ha : PE X a (LT g su W (evE G (Tk.call G n) ce))) :
    PI X tg (.Call (.Name x p1) [a] [] pos) (LI g X.K su W (evI G (Tk.call G n) (.range1 ce))) := by
  subst hx
  refine PI.imp (pi_range1 (gl_of hg) (C.st.free _ (by decide +kernel)) (pa_cons ha pa_nil (star_cons hp)) (by rw [star_cons hp]; rfl)) fun σ H Rr h => ?_
  obtain ⟨c, S, ρ, o, hsu, r, re, h⟩ := h
  rw [evI] at h
  refine LT.mk ⟨hsu, r, re⟩ (PostI.bind h fun d S' v H' c' hd q hp => ?_)
  cases d with
  | int j =>
    have hp' : PostI g X.K c' H' (fun cls dx H' => W cls dx σ H') Rr (if small j then .ok (.fix (rngD 0 j.toNat)) S' else .bad) := hp
    by_cases hs : small j
    · rw [if_pos hs] at hp'
      exact ⟨j, by rw [int_of q.r], hs.1, hs.2, hp' H' c' _ (E.refl _ _) q.s itr_ok⟩
    · rw [if_neg hs] at hp'; exact hp'.elim
  | _ => exact hp.elim
theorem i_range2 (C : Cok G g n cm su X W) {tg : Expr} {ce cf : CE} (hx : x = "range") (hg : glB X.env.scope x = true) (hp : plainX a = true) (hp2 : plainX b = true) (ha : PE X a (LT g su W (evE G (Tk.call G n) ce))) (hb : PE X b (LT g su W (evE G (Tk.call G n) cf))) :
    PI X tg (.Call (.Name x p1) [a, b] [] pos) (LI g X.K su W (evI G (Tk.call G n) (.range2 ce cf))) := by
  subst hx
  refine PI.imp (pi_range2 (gl_of hg) (C.st.free _ (by decide +kernel)) (pa_cons ha (pa_cons hb pa_nil (star_cons hp2)) (star_cons hp)) (by rw [star_cons hp, star_cons hp2]; rfl) (by rw [star_cons hp2]; rfl)) fun σ H Rr h => ?_
  obtain ⟨c, S, ρ, o, hsu, r, re, h⟩ := h
  rw [evI] at h
  have at_ : At g su c H S o σ ρ := ⟨hsu, r, re⟩
  refine LT.mk at_ (PostI.bind h fun d S' v H' c' hd q hp => ?_)
  have hp : PostI g X.K c' H' (fun cls dx H' => W cls dx σ H') Rr ((evE G (Tk.call G n) cf ρ S').bind (rngB d)) := hp
  refine LT.mk (at_.go q.e q.s) (PostI.bind hp fun d2 S2 v2 H2 c2 hd2 q2 hp2 => ?_)
  cases d with
  | int i =>
    cases d2 with
    | int j =>
      have hp3 : PostI g X.K c2 H2 (fun cls dx H' => W cls dx σ H') Rr (if small i ∧ small j then .ok (.fix (rngD i (j - i).toNat)) S2 else .bad) := hp2
      by_cases hs : small i ∧ small j
      · rw [if_pos hs] at hp3
        exact ⟨i, j, by rw [int_of q.r, int_of q2.r], ⟨hs.1.1, hs.1.2, hs.2.1, hs.2.2⟩, hp3 H2 c2 _ (E.refl _ _) q2.s itr_ok⟩
      · rw [if_neg hs] at hp3; exact hp3.elim
    | _ => exact hp2.elim
  | _ => cases d2 <;> exact hp2.elim
theorem itrev_ok {K : PySem.W.Frag} {P : Ct → Hp → Prop} {xs : List D} {p : Addr} (h : ∀ c2 H2, P c2 H2 → ∃ vs, SqL K H2 p vs ∧ Reps g c2 H2 xs vs) : ItOk g P xs.reverse (Itv K p xs.length) := by
  intro c2 H2 S2 hP r i
  obtain ⟨vs, h1, h2⟩ := h c2 H2 hP
  refine ⟨fun hi => by rw [List.length_reverse] at hi; exact hi, fun d hd => ?_⟩
  have hl : i < xs.length := by
    have := (List.getElem?_eq_some_iff.mp hd).1
    rwa [List.length_reverse] at this
  rw [List.getElem?_reverse hl] at hd
  obtain ⟨v, h3, h4⟩ := h2.get hd
  refine ⟨⟨hl, vs, v, h1, h3⟩, fun x H3 ⟨e1, q⟩ => ?_⟩
  have := q vs h1
  rw [h3] at this
  cases this
  subst e1
  exact ⟨E.refl _ _, r, h4⟩
theorem i_rev (C : Cok G g n cm su X W) {tg : Expr} {ce : CE} (hx : x = "reversed") (hg : glB X.env.scope x = true) (hp : plainX a = true) (ha : PE X a (LT g su W (evE G (Tk.call G n) ce))) :
    PI X tg (.Call (.Name x p1) [a] [] pos) (LI g X.K su W (evI G (Tk.call G n) (.rev ce))) := by
  subst hx
  refine PI.imp (pi_reversed (gl_of hg) (C.st.free _ (by decide +kernel)) (pa_cons ha pa_nil (star_cons hp)) (by rw [star_cons hp]; rfl)) fun σ H Rr h => ?_
  obtain ⟨c, S, ρ, o, hsu, r, re, h⟩ := h
  rw [evI] at h
  refine LT.mk ⟨hsu, r, re⟩ (PostI.bind h fun d S' v H' c' hd q hp => ?_)
  unfold kRev at hp
  cases z : isL d with
  | none => rw [z] at hp; exact hp.elim
  | some xs =>
    rw [z] at hp
    obtain ⟨p, h1, ⟨vs, h2⟩, h3, h4⟩ := isL_of q.r z X.K
    have hw : ∃ ws, SqL X.K H' p ws ∧ Reps g c' H' xs ws := by
      cases w : isOw d with
      | true => exact h3 c' H' ⟨(E.refl _ _).cy, fun _ _ h _ => h⟩
      | false => exact h4 w c' H' (E.refl _ _).cy
    obtain ⟨ws, k1, k2⟩ := hw
    refine ⟨p, ws, by rw [h1], k1, ?_⟩
    rw [k2.length]
    refine hp H' c' _ (E.refl _ _) q.s ?_
    cases w : isOw d with
    | true => exact itrev_ok h3
    | false => exact itrev_ok (h4 w)
theorem i_enum (C : Cok G g n cm su X W) {elts : List Expr} {kk : Nat} {ce : CE} (hx : x = "enumerate") (hg : glB X.env.scope x = true) (hp : plainX a = true) (ha : PE X a (LT g su W (evE G (Tk.call G n) ce))) :
    PI X (.Tuple elts kk p2) (.Call (.Name x p1) [a] [] pos) (LI g X.K su W (evI G (Tk.call G n) (.enum ce))) := by
  subst hx
  refine PI.imp (pi_enumA (gl_of hg) (C.st.free _ (by decide +kernel)) (pa_cons ha pa_nil (star_cons hp)) (by rw [star_cons hp]; rfl)) fun σ H Rr h => ?_
  obtain ⟨c, S, ρ, o, hsu, r, re, h⟩ := h
  rw [evI] at h
  refine LT.mk ⟨hsu, r, re⟩ (PostI.bind h fun d S' v H' c' hd q hp => ?_)
  have hK := C.K
  by_cases ht : ∃ xs, d = .tup xs
  · obtain ⟨xs, rfl⟩ := ht
    have hp : PostI g X.K c' H' (fun cls dx H' => W cls dx σ H') Rr (.ok (.fix (enumD 0 xs)) S') := hp
    have k : ∃ p, v = .ref p ∧ ∀ c3 H3, Cy c' H' c3 H3 → ∃ vs, SqT X.K H3 p vs ∧ Reps g c3 H3 xs vs := by
      have hv := q.r
      change Rep g c' H' _ v at hv; rw [Rep] at hv
      obtain ⟨p, vs, h1, h2, h3⟩ := hv
      exact ⟨p, h1, fun c3 H3 e => ⟨vs, h2.elim (fun z => .inl (.inl (e.fx _ _ z).1)) fun z => .inr (by rw [← hK]; exact z), Reps.cy e _ _ h3⟩⟩
    obtain ⟨p, h1, h3⟩ := k
    obtain ⟨vs, h4, _⟩ := h3 c' H' (E.refl _ _).cy
    exact ⟨p, vs, by rw [h1], .inr ⟨h4, hp H' c' _ (E.refl _ _) q.s (iteT_ok fun c3 H3 e => h3 c3 H3 e)⟩⟩
  have hp : PostI g X.K c' H' (fun cls dx H' => W cls dx σ H') Rr (kEnumL d S') := by
    cases d <;> first | exact hp | exact absurd ⟨_, rfl⟩ ht
  unfold kEnumL at hp
  cases z : isL d with
  | none => rw [z] at hp; exact hp.elim
  | some xs =>
    rw [z] at hp
    obtain ⟨p, h1, ⟨vs, h2⟩, h3, h4⟩ := isL_of q.r z X.K
    refine ⟨p, vs, by rw [h1], .inl ⟨h2, hp H' c' _ (E.refl _ _) q.s ?_⟩⟩
    cases w : isOw d with
    | true => exact ite_ok h3
    | false => exact ite_ok (h4 w)
theorem i_zip (C : Cok G g n cm su X W) {elts : List Expr} {kk : Nat} {ce cf : CE} (hx : x = "zip") (hg : glB X.env.scope x = true) (hp : plainX a = true) (hp2 : plainX b = true) (ha : PE X a (LT g su W (evE G (Tk.call G n) ce))) (hb : PE X b (LT g su W (evE G (Tk.call G n) cf))) :
    PI X (.Tuple elts kk p2) (.Call (.Name x p1) [a, b] [] pos) (LI g X.K su W (evI G (Tk.call G n) (.zip ce cf))) := by
  subst hx
  refine PI.imp (RZ.pi_zipA (gl_of hg) (C.st.free _ (by decide +kernel)) (pa_cons ha (pa_cons hb pa_nil (star_cons hp2)) (star_cons hp)) (star_cons hp) (by rw [star_cons hp2]; rfl)) fun σ H Rr h => ?_
  obtain ⟨c, S, ρ, o, hsu, r, re, h⟩ := h
  rw [evI] at h
  have at_ : At g su c H S o σ ρ := ⟨hsu, r, re⟩
  refine LT.mk at_ (PostI.bind h fun d S' v H' c' hd q hp => ?_)
  have hp : PostI g X.K c' H' (fun cls dx H' => W cls dx σ H') Rr ((evE G (Tk.call G n) cf ρ S').bind (zipB d)) := hp
  refine LT.mk (at_.go q.e q.s) (PostI.bind hp fun d2 S2 v2 H2 c2 hd2 q2 hp2 => ?_)
  have hK := C.K
  by_cases ht : ∃ xs ys, d = .tup xs ∧ d2 = .tup ys
  · obtain ⟨xs, ys, rfl, rfl⟩ := ht
    have hp2 : PostI g X.K c2 H2 (fun cls dx H' => W cls dx σ H') Rr (.ok (.fix (zipD xs ys)) S2) := hp2
    have k : ∀ {c0 : Ct} {H0 : Hp} {xs : List D} {v : V}, RepT g c0 H0 (.tup xs) v → ∃ p, v = .ref p ∧ ∀ c3 H3, Cy c0 H0 c3 H3 → ∃ vs, SqT X.K H3 p vs ∧ Reps g c3 H3 xs vs := by
      intro c0 H0 xs v hv
      change Rep g c0 H0 _ v at hv; rw [Rep] at hv
      obtain ⟨p, vs, h1, h2, h3⟩ := hv
      exact ⟨p, h1, fun c3 H3 e => ⟨vs, h2.elim (fun z => .inl (.inl (e.fx _ _ z).1)) fun z => .inr (by rw [← hK]; exact z), Reps.cy e _ _ h3⟩⟩
    obtain ⟨p, h1, h3⟩ := k (q.r.ext q2.e)
    obtain ⟨p', h1', h3'⟩ := k q2.r
    obtain ⟨vs, h4, _⟩ := h3 c2 H2 (E.refl _ _).cy
    obtain ⟨vs', h4', _⟩ := h3' c2 H2 (E.refl _ _).cy
    exact ⟨p, p', vs, vs', by rw [h1, h1'], .inr ⟨h4, h4', hp2 H2 c2 _ (E.refl _ _) q2.s (itzT_ok fun c3 H3 e => ⟨h3 c3 H3 e, h3' c3 H3 e⟩)⟩⟩
  · have hp2 : PostI g X.K c2 H2 (fun cls dx H' => W cls dx σ H') Rr (zipL d d2 S2 (isL d) (isL d2)) := by
      cases d <;> first | exact hp2 | (cases d2 <;> first | exact hp2 | exact absurd ⟨_, _, rfl, rfl⟩ ht)
    cases z : isL d with
    | none => rw [z] at hp2; exact hp2.elim
    | some xs =>
      cases z2 : isL d2 with
      | none => rw [z, z2] at hp2; exact hp2.elim
      | some ys =>
        rw [z, z2] at hp2
        obtain ⟨p, h1, ⟨vs, h2⟩, h3, h4⟩ := isL_of (q.r.ext q2.e) z X.K
        obtain ⟨p', h1', ⟨vs', h2'⟩, h3', h4'⟩ := isL_of q2.r z2 X.K
        refine ⟨p, p', vs, vs', by rw [h1, h1'], .inl ⟨h2, h2', hp2 H2 c2 _ (E.refl _ _) q2.s ?_⟩⟩
        cases w : isOw d || isOw d2 with
        | true => exact itz_ok fun c3 H3 e => ⟨h3 c3 H3 e, h3' c3 H3 e⟩
        | false =>
          rw [Bool.or_eq_false_iff] at w
          exact itz_ok fun c3 H3 e => ⟨h4 w.1 c3 H3 e, h4' w.2 c3 H3 e⟩
end
end Tk
/-! Core 17: comprehensions. -/
namespace Tk
open PySem PySem.Spec PyProof.Rows L2

section
variable {G : Prog} {g : Wd} {n : Nat} {cm : Bool} {su : Su} {X : Cx} {W : WX} {c c' c2 c3 : Ct} {H H' H2 H3 : Hp} {S S' S2 : Sto} {ρ ρ' : Ev} {o : List (Nat × Addr)} {σ σ' : L2.St} {Q : VK} {ea eb ev : Ev → Sto → R D} {a b e x1 : Expr} {pos p1 p2 apos : Pos} {x : Str} {A : Addr} {K : PySem.W.Frag}
theorem RelE.wipe (re : RelE g c H o σ ρ) : ∀ (vs : List Nat), RelE g c H o (wipe σ vs) (wipeE ρ vs)
  | [] => re
  | v :: vs => by
    have ih := RelE.wipe re vs
    unfold L2.wipe wipeE
    refine ⟨by rw [List.length_set, List.length_set]; exact ih.len, fun j d h => ?_, fun j xs h => ?_, fun j k fs h => ?_, re.sub, re.uni⟩
    · rw [List.getElem?_set] at h ⊢
      by_cases q : v = j
      · subst q
        rw [if_pos rfl] at h
        by_cases hl : v < (wipeE ρ vs).length
        · rw [if_pos hl] at h; cases h
        · rw [if_neg hl] at h; cases h
      · rw [if_neg q] at h ⊢
        exact ih.val j d h
    · rw [List.getElem?_set] at h ⊢
      by_cases q : v = j
      · subst q
        rw [if_pos rfl] at h
        by_cases hl : v < (wipeE ρ vs).length
        · rw [if_pos hl] at h; cases h
        · rw [if_neg hl] at h; cases h
      · rw [if_neg q] at h ⊢
        exact ih.own j xs h
    · rw [List.getElem?_set] at h ⊢
      by_cases q : v = j
      · subst q
        rw [if_pos rfl] at h
        by_cases hl : v < (wipeE ρ vs).length
        · rw [if_pos hl] at h; cases h
        · rw [if_neg hl] at h; cases h
      · rw [if_neg q] at h ⊢
        exact ih.exc j k fs h
theorem RelE.kp (re : RelE g c H o σ ρ) (hsu : c'.su = c.su) (k : Kp c H c' H') (hx : ∀ a ∈ c.x, a ∉ c.m) (sub : ∀ a ∈ c.x, a ∈ c'.x) : RelE g c' H' o σ ρ where
  len := re.len
  val := fun i d h => let ⟨v, h1, h2⟩ := re.val i d h; ⟨v, h1, Rep.cy k.1 _ _ h2⟩
  own := fun i xs h => by
    obtain ⟨a, vs, h1, h2, h3, h4⟩ := re.own i xs h
    exact ⟨a, vs, h1, h2, k.2 _ _ h3 (hx _ (re.sub _ _ h2)), Reps.cy k.1 _ _ h4⟩
  exc := fun i q fs h => let ⟨a, h1, h2⟩ := re.exc i q fs h; ⟨a, h1, h2.cy k.1 hsu⟩
  sub := fun i a h => sub a (re.sub i a h)
  uni := re.uni
/-- one address more left out, which was not there before -/
theorem kp_plus (e : E c H c2 H2) (hA : H A = none) : Kp c H (c2.plus A) H2 := ⟨{
  fx := fun b ob h => by
    obtain ⟨h1, h2, h3⟩ := h.ext e
    refine ⟨h1, h2, fun z => ?_⟩
    rcases List.mem_cons.mp z with z | z
    · have h0 := h.1
      rw [z, hA] at h0; cases h0
    · exact h3 z
  loc := e.cy.loc }, fun b ob h1 h2 => (e.keep b ob h1 h2).1⟩
theorem E.unplus (e : E (c.plus A) H c' H') : ∃ c2 : Ct, c' = c2.plus A ∧ E c H c2 H' :=
  ⟨⟨c'.m, c.x, c'.su⟩, by
    have := e.x
    obtain ⟨m, x, s⟩ := c'
    show Ct.mk m x s = ⟨m, A :: c.x, s⟩
    rw [show x = A :: c.x from this], e.pre, rfl, e.su, e.keep, e.dom⟩
/-- what lies at a left out address may change -/
theorem cy_out {ob : HO} (hA : A ∈ c.x) : Cy c H c (L2.upd H A ob) where
  fx := fun b o ⟨h1, h2, h3⟩ => ⟨by rw [upd_ne (fun z => h3 (by rw [z]; exact hA))]; exact h1, h2, h3⟩
  loc := fun _ _ h => h
theorem RelS.out {ob : HO} (r : RelS g c H S) (hA : A ∈ c.x) : RelS g c (L2.upd H A ob) S where
  nd := r.nd
  len := r.len
  x := fun b hb => ⟨(r.x b hb).1, by
    by_cases q : b = A
    · rw [q, upd_same]; exact fun z => nomatch z
    · rw [upd_ne q]; exact (r.x b hb).2⟩
  ok := fun k ce b h1 h2 => (r.ok k ce b h1 h2).cy (cy_out hA) fun o z => by
    rw [upd_ne (fun q => (r.x A hA).1 (by rw [← q]; exact List.mem_of_getElem? h2))]; exact z
/-- E over a new object's change -/
theorem E.out {ob : HO} (e : E c H c2 H2) (hA : H A = none) (hm : A ∉ c2.m) : E c H c2 (L2.upd H2 A ob) := ⟨e.pre, e.x, e.su, fun b o h1 h2 => by
    obtain ⟨h3, h4⟩ := e.keep b o h1 h2
    exact ⟨by rw [upd_ne (ne_of_none h1 hA)]; exact h3, h4⟩, fun b hb => by
    by_cases q : b = A
    · rw [q, upd_same]; exact fun z => nomatch z
    · rw [upd_ne q]; exact e.dom b hb⟩
abbrev noW : WX := fun _ _ _ _ => False
theorem Cok.blk (C : Cok G g n true su X W) (s : Shared) (H : Hp) (scope : Scope) (cl : List (Str × Addr)) (A : Addr) (fp : List Addr) : Cok G g n true su (X.blk s H scope (compEnvC scope cl A X.env) fp) noW where
  K := C.K
  nd := C.nd
  tk := fun u s' h => by obtain ⟨a, B, sI, pins, σ, H, cls, d, e, I, nb, up, sky, na, os, ag, w⟩ := h; exact w.elim
  cm := C.cm
  st := C.st
  wf := C.wf
  calls := C.calls
  ex := C.ex
  su := fun q h => by rw [(C.cm rfl).2.2] at h; cases h
theorem lookup_mapS {F : Str → NameKind → NameKind} {x : Str} : ∀ {l : List (Str × NameKind)}, (l.map fun p => (p.1, F p.1 p.2)).lookup x = (l.lookup x).map (F x)
  | [] => rfl
  | (n, k) :: r => by
    rw [List.map_cons, List.lookup_cons, List.lookup_cons]
    cases hx : x == n with
    | true =>
      have : x = n := by simpa using hx
      subst this
      rfl
    | false => exact lookup_mapS
theorem relabel_lookup {sc : Scope} {env : Env} {x : Str} : (relabel sc env).names.lookup x = (sc.names.lookup x).map fun k => if (k == NameKind.free && env.scope.kind == .function && env.kindOf x == some .cell) then NameKind.cell else k := by
  have e : (relabel sc env).names = sc.names.map fun p => (p.1, if (p.2 == NameKind.free && env.scope.kind == .function && env.kindOf p.1 == some .cell) then NameKind.cell else p.2) := by
    show List.map _ _ = _
    refine List.map_congr_left fun p _ => ?_
    obtain ⟨n, k⟩ := p
    show (if (k == NameKind.free && env.scope.kind == .function && env.kindOf n == some .cell) = true then (n, NameKind.cell) else (n, k)) = _
    split <;> rfl
  rw [e]
  exact lookup_mapS (F := fun n k => if (k == NameKind.free && env.scope.kind == .function && env.kindOf n == some .cell) then NameKind.cell else k)
theorem relabel_at {sc : Scope} {env : Env} {x : Str} {k : NameKind} (h : sc.names.lookup x = some k) : (relabel sc env).names.lookup x = some k ∨ (k = .free ∧ (relabel sc env).names.lookup x = some .cell) := by
  have e := relabel_lookup (sc := sc) (env := env) (x := x)
  rw [h] at e
  rw [e]
  by_cases hc : (k == NameKind.free && env.scope.kind == .function && env.kindOf x == some .cell) = true
  · refine .inr ⟨?_, by show some (if _ then _ else _) = _; rw [if_pos hc]⟩
    simp only [Bool.and_eq_true] at hc
    simpa using hc.1.1
  · exact .inl (by show some (if _ then _ else _) = _; rw [if_neg hc])
theorem scOk_relabel {sc : Scope} {env : Env} : ScOk sc (relabel sc env) where
  vis := fun x h => by
    unfold visB at h ⊢
    split at h
    · rename_i q; rcases relabel_at (env := env) q with z | ⟨z, _⟩
      · rw [z]
      · cases z
    · rename_i q; rcases relabel_at (env := env) q with z | ⟨z, _⟩
      · rw [z]
      · cases z
    · rename_i q; rcases relabel_at (env := env) q with z | ⟨_, z⟩ <;> rw [z]
    · cases h
  gl := fun x h => by
    unfold glB at h ⊢
    split at h
    · rename_i q; rcases relabel_at (env := env) q with z | ⟨z, _⟩
      · rw [z]
      · cases z
    · cases h
  cf := fun x h => by
    rcases h with h | h
    · rcases relabel_at (env := env) h with z | ⟨z, _⟩
      · exact .inl z
      · cases z
    · rcases relabel_at (env := env) h with z | ⟨_, z⟩
      · exact .inr z
      · exact .inl z
theorem locOk_blk {s : Shared} {H : Hp} {scope : Scope} {cl : List (Str × Addr)} {A : Addr} {fp : List Addr} : LocOk scope (X.blk s H scope (compEnvC scope cl A X.env) fp) := by
  intro x h
  unfold locB at h
  split at h
  · rename_i q
    have z : (relabel scope X.env).names.lookup x = some .local := (relabel_at q).elim id fun z => by cases z.1
    exact ⟨.inl z, .inr z⟩
  · rename_i q
    have z : (relabel scope X.env).names.lookup x = some .cell := (relabel_at q).elim id fun z => by cases z.1
    exact ⟨.inr z, .inl (by show (scope.names.lookup x == some .cell) = true; rw [q]; rfl)⟩
  · cases h
theorem noErr_ok {WW WW' : WH} {r : R D} (h : Post g c H WW Q (noErr r)) : Post g c H WW' Q r := by
  cases r with
  | ok d S => exact h
  | err k fs S => exact h.elim
  | bad => exact h
/-- one turn's tests and element; K: how the state stands, behind it -/
theorem noErr_bind {α : Type} {WW : WH} {r : R α} {k : α → Sto → R D} (h : Post g c H WW Q (noErr (r.bind k))) : ∃ d S1, r = .ok d S1 ∧ Post g c H WW Q (noErr (k d S1)) := by
  cases r with
  | ok d S1 => exact ⟨d, S1, rfl, h⟩
  | err k fs S1 => exact h.elim
  | bad => exact h.elim
def tstT (G : Prog) (g : Wd) (su : Su) (n : Nat) (cd : CE) : TT := LB g su noW (tstC cd.isNul (evE G (Tk.call G n) cd))
/-- the loop, from the turn i on -/
def LcI (g : Wd) (c1 : Ct) (H1 : Hp) (A : Addr) (step : D → Sto → R (Option D)) (xs : List D) (WW : WH) (Q : VK) (i m : Nat) (H2 : Hp) : Prop :=
  ∃ c2 S2 acc va, m + i = xs.length ∧ E c1 H1 c2 H2 ∧ RelS g (c2.plus A) H2 S2 ∧ Reps g (c2.plus A) H2 acc va ∧ H2 A = some (.lst va) ∧ Post g c1 H1 WW Q (noErr (lcF step (xs.drop i) acc S2))
theorem comp_imp {vs : List Nat} {tg : Tg} {it : CI} {cd el : CE} (htg : (tgIx tg).all (fun i => decide (i ∈ vs)) = true) : ∀ σ H Q, LT g su W (evE G (Tk.call G n) (.comp vs tg it cd el)) σ H Q →
    tLc (LI g K su W (evI G (Tk.call G n) it)) (LG g tg) (tstT G g su n cd) (LT g su noW (evE G (Tk.call G n) el)) vs σ H Q := by
  intro σ H Q h
  obtain ⟨c, S, ρ, o, at_, h⟩ := h.open
  rw [evE] at h
  refine ⟨c, S, ρ, o, at_.su, at_.s, at_.e, ?_⟩
  cases q1 : evI G (Tk.call G n) it ρ S with
  | err k fs S1 => rw [q1] at h; exact h
  | bad => rw [q1] at h; exact h
  | ok t1 S1 =>
    rw [q1] at h
    have h : Post g c H (fun cls dx H' => W cls dx σ H') Q (kComp (lcStep (wipeE ρ vs) tg (tstC cd.isNul (evE G (Tk.call G n) cd)) (evE G (Tk.call G n) el)) t1 S1) := h
    intro H1 c1 J e1 r1 hit A hA
    have h := Post.shift e1 h
    have at1 := at_.go e1 r1
    have go : ∀ xs, ItOk g (fun c2 H2 => Kp c1 H1 c2 H2) xs J → Post g c1 H1 (fun cls dx H' => W cls dx σ H') Q (noErr (lcF (lcStep (wipeE ρ vs) tg (tstC cd.isNul (evE G (Tk.call G n) cd)) (evE G (Tk.call G n) el)) xs [] S1)) →
        ∃ W' : Nat → Nat → Hp → Prop, (∃ m, W' 0 m (upd H1 A (.lst []))) ∧ ∀ i m H, W' i m H →
          (J.stop i H ∧ Q (.ref A) H) ∨ (J.go i H ∧ ∃ Nx : Hp → Prop, (∀ H', Nx H' → ∃ m', m' < m ∧ W' (i + 1) m' H') ∧ ∀ x H', J.yld i H x H' → LG g tg x (L2.wipe σ vs) H' fun σ2 H2 => L2.wipe σ2 vs = L2.wipe σ vs ∧ tstT G g su n cd σ2 H2 fun b H3 =>
            if b = true then LT g su noW (evE G (Tk.call G n) el) σ2 H3 fun y H4 => ∃ acc, H4 A = some (.lst acc) ∧ acc.length < sizeLine ∧ Nx (upd H4 A (.lst (acc ++ [y]))) else Nx H3) := by
      intro xs hok hp
      refine ⟨LcI g c1 H1 A _ xs (fun cls dx H' => W cls dx σ H') Q, ⟨xs.length, c1, S1, [], [], rfl, E.upd r1.there hA, r1.new hA, Reps.nil, upd_same, hp⟩, fun i m H2 hI => ?_⟩
      obtain ⟨c2, S2, acc, va, hm, e2, r2, hacc, hH, hp2⟩ := hI
      have kp2 := kp_plus e2 hA
      obtain ⟨k1, k2⟩ := hok _ _ _ kp2 r2 i
      have hAm : A ∉ c2.m := (r2.x A List.mem_cons_self).1
      by_cases hi : xs.length ≤ i
      · refine .inl ⟨k1 hi, ?_⟩
        rw [List.drop_eq_nil_of_le hi] at hp2
        have hp3 : Post g c1 H1 (fun cls dx H' => W cls dx σ H') Q (.ok (.new acc) S2) := hp2
        refine hp3 (.ref A) H2 c2 ⟨e2, ⟨A, va, rfl, ⟨hH, hAm, fun z => ?_⟩, Reps.cy cy_weak _ _ hacc⟩, r2.weak, fun ys z => by cases z; exact ⟨A, va, rfl, hA, r2, hH, hacc⟩⟩
        rw [e2.x] at z
        exact (r1.x A z).2 hA
      · have hlt : i < xs.length := Nat.lt_of_not_le hi
        have hxi : xs[i]? = some xs[i] := List.getElem?_eq_getElem hlt
        obtain ⟨kg, ky⟩ := k2 _ hxi
        refine .inr ⟨kg, fun H' => ∃ m', m' < m ∧ LcI g c1 H1 A _ xs (fun cls dx H' => W cls dx σ H') Q (i + 1) m' H', fun _ z => z, fun x H3 hy => ?_⟩
        obtain ⟨e3, r3, hx⟩ := ky x H3 hy
        rw [List.drop_eq_getElem_cons hlt] at hp2
        generalize xs[i] = d at hx hp2
        obtain ⟨od, S3, hst, hp3⟩ := noErr_bind hp2
        have re3 : RelE g (c2.plus A) H3 o (L2.wipe σ vs) (wipeE ρ vs) := ((at1.e.kp (c' := c2.plus A) e2.su kp2 (fun b hb => (r1.x b hb).1) fun b hb => List.mem_cons_of_mem _ (by rw [e2.x]; exact hb)).ext e3 fun b hb => (r2.x b hb).1).wipe vs
        have hst : lcIn (tstC cd.isNul (evE G (Tk.call G n) cd)) (evE G (Tk.call G n) el) S2 (bindT (wipeE ρ vs) tg d) = .ok od S3 := hst
        cases qb : bindT (wipeE ρ vs) tg d with
        | none => rw [qb] at hst; cases hst
        | some ρ' =>
          rw [qb] at hst
          have hst : (tstC cd.isNul (evE G (Tk.call G n) cd) ρ' S2).bind (lcTest (evE G (Tk.call G n) el ρ')) = .ok od S3 := hst
          refine ⟨c2.plus A, S2, wipeE ρ vs, o, d, ρ', r3, re3, (rep_T hx).1, qb, fun σ2 re4 hw => ⟨?_, ?_⟩⟩
          · rw [hw vs fun j hj => of_decide_eq_true (List.all_eq_true.mp htg j hj)]
            apply List.ext_getElem?
            intro j
            by_cases hj : j ∈ vs
            · have none1 : ∀ (τ : L2.St) (us : List Nat), j ∈ us → (L2.wipe τ us)[j]? = if j < τ.length then some none else none := by
                intro τ us
                induction us with
                | nil => intro h; cases h
                | cons u us ih =>
                  intro h
                  unfold L2.wipe
                  rw [List.getElem?_set]
                  by_cases q : u = j
                  · subst q; rw [if_pos rfl, wipe_length]
                  · rw [if_neg q]
                    rcases List.mem_cons.mp h with z | z
                    · exact absurd z.symm q
                    · exact ih z
              rw [none1 _ _ hj, none1 _ _ hj, wipe_length]
            · rw [wipe_out hj]
          · have sub : (c2.plus A).su = su := e2.su.trans at1.su
            refine ⟨c2.plus A, S2, ρ', o, sub, r3, re4, ?_⟩
            cases qt : tstC cd.isNul (evE G (Tk.call G n) cd) ρ' S2 with
            | err k fs S4 => rw [qt] at hst; cases hst
            | bad => rw [qt] at hst; cases hst
            | ok b S4 =>
              rw [qt] at hst
              have hst : lcTest (evE G (Tk.call G n) el ρ') b S4 = .ok od S3 := hst
              intro H4 c4 e4 r4
              obtain ⟨c4, rfl, e4'⟩ := (e3.trans e4).unplus
              have e24 : E c1 H1 c4 H4 := e2.trans e4'
              have hH4 : H4 A = some (.lst va) := (e4'.keep A _ hH hAm).1
              have hacc4 : Reps g (c4.plus A) H4 acc va := Reps.cy (e3.trans e4).cy _ _ hacc
              cases b with
              | false =>
                have hst : R.ok none S4 = R.ok od S3 := hst
                cases hst
                simp only [Bool.false_eq_true, if_false]
                exact ⟨m - 1, by omega, c4, S3, acc, va, by omega, e24, r4, hacc4, hH4, hp3⟩
              | true =>
                simp only [if_true]
                have hst : (evE G (Tk.call G n) el ρ' S4).bind lcEnd = .ok od S3 := hst
                refine ⟨c4.plus A, S4, ρ', o, e4'.su.trans sub, r4, re4.ext e4 fun b hb => (r3.x b hb).1, ?_⟩
                cases qe : evE G (Tk.call G n) el ρ' S4 with
                | err k fs S5 => rw [qe] at hst; cases hst
                | bad => rw [qe] at hst; cases hst
                | ok y S5 =>
                  rw [qe] at hst
                  have hst : (if still y then R.ok (some (fz y)) S5 else .bad) = .ok od S3 := hst
                  by_cases hy2 : still y = true
                  · rw [if_pos hy2] at hst
                    cases hst
                    have hp4 : Post g c1 H1 (fun cls dx H' => W cls dx σ H') Q (noErr (if acc.length < LIM then lcF _ (xs.drop (i + 1)) (acc ++ [fz y]) S3 else .bad)) := hp3
                    by_cases hl : acc.length < LIM
                    · rw [if_pos hl] at hp4
                      intro v H5 c5 gg
                      obtain ⟨c5, rfl, e5'⟩ := gg.e.unplus
                      have hAm4 : A ∉ c4.m := (r4.x A List.mem_cons_self).1
                      have hAm5 : A ∉ c5.m := (gg.s.x A List.mem_cons_self).1
                      have hH5 : H5 A = some (.lst va) := (gg.e.keep A _ hH4 hAm4).1
                      refine ⟨va, hH5, by rw [hacc.length]; exact Nat.lt_of_lt_of_le hl (by decide), m - 1, by omega, c5, S3, acc ++ [fz y], va ++ [v], by omega, (e24.trans e5').out hA hAm5, gg.s.out List.mem_cons_self, ?_, upd_same, hp4⟩
                      exact Reps.cy (cy_out List.mem_cons_self) _ _ ((Reps.cy gg.e.cy _ _ hacc4).append (Reps.cons (gg.r.rest hy2) Reps.nil))
                    · rw [if_neg hl] at hp4; exact hp4.elim
                  · rw [if_neg hy2] at hst; cases hst
    cases t1 with
    | fix xs => exact go xs (fun c2 H2 S2 k => hit c2 H2 S2 k.1) h
    | ow xs => exact go xs hit h
    | dyn k => exact h.elim
theorem lc_g (C : Cok G g n true su X W) {tg : Tg} {t : Expr} {scope : Scope} (hct : ckT X.N scope tg t = true) (s : Shared) (H : Hp) (A : Addr) (cl : List (Str × Addr)) (fp : List Addr) : PG (X.blk s H scope (compEnvC scope cl A X.env) fp) t (LG g tg) :=
  g_tg (X := X.blk s H scope (compEnvC scope cl A X.env) fp) C.nd locOk_blk (C.cm rfl).1 C.K hct
theorem s_comp (C : Cok G g n true su X W) {vs : List Nat} {tg : Tg} {it : CI} {cd el : CE} {iter elt t : Expr} {ifs : List Expr} {scope : Scope} {own : List (Str × Nat)} (hown : own.map (·.2) = vs) (hb : BlkOk X.N X.env.scope scope own)
    (htg : (tgIx tg).all (fun i => decide (i ∈ vs)) = true) (hct : ckT X.N scope tg t = true) (hs : noSet iter = true) (hi : PI X t iter (LI g X.K su W (evI G (Tk.call G n) it)))
    (hd : ∀ (s : Shared) (H : Hp) (C : Addr) (cl : List (Str × Addr)) (fp : List Addr), PTs (X.blk s H scope (compEnvC scope cl C X.env) fp) ifs (tstT G g su n cd))
    (he : ∀ (s : Shared) (H : Hp) (C : Addr) (cl : List (Str × Addr)) (fp : List Addr), PE (X.blk s H scope (compEnvC scope cl C X.env) fp) elt (LT g su noW (evE G (Tk.call G n) el))) :
    PE X (.ListComp elt [⟨t, iter, ifs, 0⟩] scope pos) (LT g su W (evE G (Tk.call G n) (.comp vs tg it cd el))) :=
  PE.imp (pe_lc (C.cm rfl).1 C.nd hi hb (lc_g C hct) hd he (fun x => by cases iter <;> first | rfl | cases hs)) fun σ H Q h => by
    rw [hown]; exact comp_imp htg σ H Q h
/-- name = [..] on one line -/
theorem ps_comp (C : Cok G g n true su X W) {vs : List Nat} {tg : Tg} {it : CI} {cd el : CE} {iter elt t : Expr} {ifs : List Expr} {scope : Scope} {own : List (Str × Nat)} (hown : own.map (·.2) = vs) (hb : BlkOk X.N X.env.scope scope own)
    (htg : (tgIx tg).all (fun i => decide (i ∈ vs)) = true) (hct : ckT X.N scope tg t = true) (hs : noSet iter = true) (hi : PI X t iter (LI g X.K su W (evI G (Tk.call G n) it)))
    (hd : ∀ (s : Shared) (H : Hp) (C : Addr) (cl : List (Str × Addr)) (fp : List Addr), PTs (X.blk s H scope (compEnvC scope cl C X.env) fp) ifs (tstT G g su n cd))
    (he : ∀ (s : Shared) (H : Hp) (C : Addr) (cl : List (Str × Addr)) (fp : List Addr), PE (X.blk s H scope (compEnvC scope cl C X.env) fp) elt (LT g su noW (evE G (Tk.call G n) el)))  {i : Nat} {y : Str} {py spos : Pos} (hy : X.N[i]? = some y) (hyl : X.env.scope.names.lookup y = some .local) (hsw : swapsWith (.ListComp elt [⟨t, iter, ifs, 0⟩] scope pos) (some (.Name y py)) spos.line X.env = pure true) :
    PS X (.Assign [.Name y py] (.ListComp elt [⟨t, iter, ifs, 0⟩] scope pos) spos) (tAsg (tLc (LI g X.K su W (evI G (Tk.call G n) it)) (LG g tg) (tstT G g su n cd) (LT g su noW (evE G (Tk.call G n) el)) vs) (gName i)) := by
  subst hown
  exact ps_setLc (C.cm rfl).1 C.nd hy hyl hsw hi hb (lc_g C hct) hd he (fun x => by cases iter <;> first | rfl | cases hs)
end
end Tk
/-! Core 18: attributes of a caught exception; chains; all expressions. -/
namespace Tk
open PySem PySem.Spec PyProof.Rows L2

section
variable {G : Prog} {g : Wd} {n : Nat} {cm : Bool} {su : Su} {X : Cx} {W : WX} {c c' c2 c3 : Ct} {H H' H2 H3 : Hp} {S S' S2 : Sto} {ρ ρ' : Ev} {o : List (Nat × Addr)} {σ σ' : L2.St} {Q : VK} {ea eb ev : Ev → Sto → R D} {a b e x1 : Expr} {pos p1 p2 apos : Pos} {x : Str} {A : Addr}
/-- e.f of the exception that the suite holds -/
theorem pe_excAttr {X0 : Cx} {A : Addr} {oe : Obj} {cls : Value} {d : Option Addr} {pn : List (Addr × Obj)} {te : TE} (hz : Zc cls d oe) (hf : ∃ vs, oe.data = .fields vs) (he : PE (Cx.suite X0 A ((A, oe) :: pn)) e te) (hb : attrB e = true) :
    PE (Cx.suite X0 A ((A, oe) :: pn)) (.Attribute e x pos) (fun σ H Q => te σ H fun v H1 => v = .ref A ∧ ∃ C dd ls w, cls = .ref C ∧ ExcAt X0.K C x ∧ d = some dd ∧ H1 dd = some (.xd ls) ∧ ls.lookup x = some w ∧ Q w H1) := by
  refine ⟨fun pins s σ H Q I h => ?_⟩
  refine attr_of (attr_base hb) (thn (he.run pins s σ H _ I h) fun u s1 ⟨v, H1, I1, rv, ev, C, dd, ls, w, ec, T, ed, ea, el, q⟩ => ?_)
  subst ev ec ed
  obtain rfl : u = Value.ref A := rv
  obtain ⟨ha, _⟩ := I1.pin (A, oe) (List.mem_append_left _ List.mem_cons_self)
  obtain ⟨vs, hd⟩ := hf
  have hx : ObjOk X0.prog X0.w H1 s1.heap dd (.xd ls) := I1.hok dd _ ea
  obtain ⟨mA, hns, hr⟩ := hx
  obtain ⟨od, ho, hl⟩ := lookIn_ns hns
  obtain ⟨u, hu, ru⟩ := RelO.some_of (v := w) (o := mA x) (by rw [← el]; exact hr x)
  have J : PySem.W.InstAt s1.heap A oe C (some od) := ⟨ha, hz.1, by unfold PySem.W.notCls; rw [hd] <;> rfl, by rw [hz.2]; exact ho⟩
  exact HandSPX.exc_get I1.kIn J T.ga T.gg T.ex (PySem.W.findObj_own T.hd T.no rfl (by rw [hl, hu])) (handed_of ru) ⟨w, H1, I1.tok _, ru, q⟩
theorem pe_attrVac {te : TE} (he : PE X e te) (hb : attrB e = true) : PE X (.Attribute e x pos) (fun σ H _ => te σ H fun _ _ => False) := by
  refine ⟨fun pins s σ H Q I h => ?_⟩
  exact attr_of (attr_base hb) (thn (he.run pins s σ H _ I h) fun u s1 ⟨v, H1, I1, rv, z⟩ => z.elim)
theorem s_attr (C : Cok G g n cm su X W) {ce : CE} {f : Nat} (hb : attrB a = true) (hx : G.attrs[f]? = some x) (ha : PE X a (LT g su W (evE G (Tk.call G n) ce))) : PE X (.Attribute a x pos) (LT g su W (evE G (Tk.call G n) (.attr ce f))) := by
  refine PE.sem fun σ H Q h => ?_
  obtain ⟨c, S, ρ, o, at_, h⟩ := h.open
  rw [evE] at h
  cases q : evE G (Tk.call G n) ce ρ S with
  | err k fs S1 =>
    refine ⟨_, s_attr0 (pos := pos) C hb hx ha, LT.mk at_ ?_⟩
    show Post g c H _ Q ((evE G (Tk.call G n) ce ρ S).bind _)
    rw [q] at h ⊢; exact h
  | bad => rw [q] at h; exact h.elim
  | ok d S1 =>
    by_cases hd : ∃ k fs, d = .exn k fs
    · obtain ⟨k, fs, rfl⟩ := hd
      rw [q] at h
      have h : Post g c H (fun cls dx H' => W cls dx σ H') Q (if G.exc? k then fldD G k fs f S1 else .bad) := h
      by_cases hk : G.exc? k = true
      · rw [if_pos hk] at h
        cases hsu : su with
        | none =>
          refine ⟨_, pe_attrVac (pos := pos) ha hb, LT.mk at_ ?_⟩
          rw [q]
          intro v H1 c1 gg
          have hr := gg.r
          obtain ⟨p, _, vs, d, h1, _⟩ := hr
          rw [gg.e.su, at_.su, hsu] at h1
          cases h1
        | some z =>
          obtain ⟨X0, oe, pn, hX, hz, hf⟩ := C.su z hsu
          have hK := C.K
          subst hX
          refine ⟨_, pe_excAttr (pos := pos) hz hf ha hb, LT.mk at_ ?_⟩
          rw [q]
          intro v H1 c1 gg
          have h2 := Post.shift gg.e h
          have hr := gg.r
          obtain ⟨p, e1, vs, d, h1, h3, h4, h5⟩ := hr
          rw [gg.e.su, at_.su, hsu] at h1
          have h1 := Option.some.inj h1
          subst h1
          unfold fldD at h2
          cases hp : fpos G k f with
          | none => rw [hp] at h2; exact h2.elim
          | some j =>
            rw [hp] at h2
            dsimp only at h2
            cases hw : fs[j]? with
            | none => rw [hw] at h2; exact h2.elim
            | some w =>
              rw [hw] at h2
              obtain ⟨cc, x', g1, g2, g3⟩ := fpos_of hp
              rw [hx] at g2; cases g2
              obtain ⟨u, g4, g5⟩ := h5.get hw
              obtain ⟨g6, g7⟩ := rep_T g5
              have T := C.st.exc k cc x hk g1 (idx_mem g3)
              rw [hK] at T
              rcases h3 with h3 | ⟨dd, h3, h6⟩
              · rw [h3.1] at hw; simp at hw
              · refine ⟨e1, g.ca k, dd, _, u, rfl, T, h3, h6.1, ?_, Post.now gg.s g6 g7 h2⟩
                rw [C.st.cf k cc g1]
                exact idx_lookup g3 g4
      · rw [if_neg hk] at h; exact h.elim
    · refine ⟨_, s_attr0 (pos := pos) C hb hx ha, LT.mk at_ ?_⟩
      show Post g c H _ Q ((evE G (Tk.call G n) ce ρ S).bind _)
      rw [q] at h ⊢
      cases d with
      | exn k fs => exact absurd ⟨k, fs, rfl⟩ hd
      | _ => exact h

/-! ### isinstance of a caught exception -/
def rIsX (K : PySem.W.Frag) (C a : Addr) (d : Option Addr) : List V → Hp → VK → Prop := fun xs H Q => ∃ (y : V) (cv : Value) (r : Bool), xs = [.ref a, y] ∧ (∀ u, RelV y u → u = cv) ∧ PySem.W.kitOne K (.ref C) cv = some r ∧ (d = none ∨ ∃ dd ls, d = some dd ∧ H dd = some (.xd ls)) ∧ Q (.bl r) H
theorem call_isX {X0 : Cx} {A C : Addr} {oe : Obj} {d : Option Addr} {pn : List (Addr × Obj)} (T : ExcC X0.K C) (hz : Zc (.ref C) d oe) (hf : ∃ vs, oe.data = .fields vs) : CallR (X0.suite A ((A, oe) :: pn)) (.builtin "isinstance") (rIsX X0.K C A d) := by
  intro pins s σ H xs us Q I r h
  obtain ⟨y, cv, t, rfl, hcv, e, hd, q⟩ := h
  cases r with
  | cons rx rr =>
    cases rr with
    | cons rt rr =>
      cases rr
      cases rx
      have ec := hcv _ rt
      subst ec
      obtain ⟨hget, _⟩ := I.pin (A, oe) (List.mem_append.mpr (.inl List.mem_cons_self))
      obtain ⟨vs, hv⟩ := hf
      have J : ∃ od, PySem.W.InstAt s.heap A oe C od := by
        rcases hd with rfl | ⟨dd, ls, rfl, ea⟩
        · exact ⟨none, hget, hz.1, by unfold PySem.W.notCls; rw [hv] <;> rfl, by rw [hz.2]; trivial⟩
        · have hx : ObjOk X0.prog X0.w H s.heap dd (.xd ls) := I.hok dd _ ea
          obtain ⟨mA, hns, hr⟩ := hx
          obtain ⟨od, ho, hl⟩ := lookIn_ns hns
          exact ⟨some od, hget, hz.1, by unfold PySem.W.notCls; rw [hv] <;> rfl, by rw [hz.2]; exact ho⟩
      obtain ⟨od, J⟩ := J
      obtain ⟨cd, hcd, _⟩ := PySem.W.any_some T.hd
      exact PySem.W.kia_one (PySem.W.kitx_exc (by rw [hcd]; rfl) T.hg T.hk T.hs T.ha T.hn T.ht T.hm) I.kIn J e (fun z => nomatch z) fun tk => ⟨.bl t, H, I.kept (t' := tk) fun _ _ z => z, rfl, q⟩
theorem s_isi (C : Cok G g n cm su X W) {ce : CE} {q : Ck} {y : Str} {v : V} {u : Value} (hx : x = "isinstance") (hg : glB X.env.scope x = true) (hp : plainX a = true) (hv : PE X (.Name y p2) (tC v)) (hc : ClsV v u) (hu : u = ckV g q) (hq : okQ G q = true)
    (hvv : ∀ w, RelV v w → w = u) (ha : PE X a (LT g su W (evE G (Tk.call G n) ce))) :
    PE X (.Call (.Name x p1) [a, .Name y p2] [] pos) (LT g su W (evE G (Tk.call G n) (.isi ce q))) := by
  refine PE.sem fun σ H Q h => ?_
  obtain ⟨c, S, ρ, o, at_, h⟩ := h.open
  rw [evE] at h
  have hA : PA X [a, .Name y p2] (tCons (LT g su W (evE G (Tk.call G n) ce)) (tCons (tC v) tNil)) := pa_cons ha (pa_cons hv pa_nil rfl) (star_cons hp)
  cases z : evE G (Tk.call G n) ce ρ S with
  | err k fs S1 =>
    refine ⟨_, s_isi0 (pos := pos) (p1 := p1) C hx hg hp hv hc hu hq ha, LT.mk at_ ?_⟩
    show Post g c H _ Q ((evE G (Tk.call G n) ce ρ S).bind _)
    rw [z] at h ⊢; exact h
  | bad => rw [z] at h; exact h.elim
  | ok d S1 =>
    by_cases hd : ∃ k fs, d = .exn k fs
    · obtain ⟨k, fs, rfl⟩ := hd
      rw [z] at h
      have h : Post g c H (fun cls dx H' => W cls dx σ H') Q (if G.exc? k then isiR S1 (isiB G (.exn k fs) q) else .bad) := h
      by_cases hk : G.exc? k = true
      · rw [if_pos hk] at h
        subst hx
        have hgl := gl_of hg
        have hfr := C.st.free ("isinstance" : Str) (by decide +kernel)
        cases hsu : su with
        | none =>
          subst hsu
          refine ⟨_, pe_callB (pos := pos) (p := p1) call_isi hgl hfr (by decide +kernel) hA (by decide +kernel) (by decide +kernel) (star_cons hp) (by rfl), LT.mk at_ ?_⟩
          rw [z]
          intro w H1 c1 gg
          have hr := gg.r
          obtain ⟨p, _, vs, d, h1, _⟩ := hr
          rw [gg.e.su, at_.su] at h1
          cases h1
        | some sz =>
          obtain ⟨X0, oe, pn, hX, hz, hf⟩ := C.su sz hsu
          have hK := C.K
          have T := C.st.excC k hk
          rw [hK] at T
          cases hb : isiB G (.exn k fs) q with
          | none => rw [hb] at h; exact h.elim
          | some r =>
            rw [hb] at h
            have hki := C.st.isi (.exn k fs) q r hk hq hb
            rw [hK] at hki
            subst hX
            by_cases hck : sz.2.1 = .ref (g.ca k)
            · rw [hck] at hz
              refine ⟨_, pe_callB (pos := pos) (p := p1) (call_isX (X0 := X0) T hz hf) hgl hfr (by decide +kernel) hA (by decide +kernel) (by decide +kernel) (star_cons hp) (by rfl), LT.mk at_ ?_⟩
              rw [z]
              intro w H1 c1 gg
              have h2 := Post.shift gg.e h
              have hr := gg.r
              obtain ⟨p, e1, vs, d, h1, h3, h4, h5⟩ := hr
              rw [gg.e.su, at_.su, hsu] at h1
              have h1 := Option.some.inj h1
              subst h1
              refine ⟨v, u, r, by rw [e1], hvv, by rw [hu]; exact hki, ?_, h2.bl gg.s⟩
              rcases h3 with h3 | ⟨dd, h3, h6⟩
              · exact .inl h3.2
              · exact .inr ⟨dd, _, h3, h6.1⟩
            · refine ⟨_, pe_callB (pos := pos) (p := p1) call_isi hgl hfr (by decide +kernel) hA (by decide +kernel) (by decide +kernel) (star_cons hp) (by rfl), LT.mk at_ ?_⟩
              rw [z]
              intro w H1 c1 gg
              have hr := gg.r
              obtain ⟨p, e1, vs, d, h1, h3, h4, h5⟩ := hr
              rw [gg.e.su, at_.su, hsu] at h1
              have h1 := Option.some.inj h1
              exact absurd (by rw [h1]) hck
      · rw [if_neg hk] at h; exact h.elim
    · refine ⟨_, s_isi0 (pos := pos) (p1 := p1) C hx hg hp hv hc hu hq ha, LT.mk at_ ?_⟩
      show Post g c H _ Q ((evE G (Tk.call G n) ce ρ S).bind _)
      rw [z] at h ⊢
      cases d with
      | exn k fs => exact absurd ⟨k, fs, rfl⟩ hd
      | _ => exact h

/-! ### chains -/
theorem right_of {op : Cm} {cf : CE} {y : D} {cl : Cl} (hr : rightB op cf = true) (hE : evE G cl cf ρ S = .ok y S2) : rightD op y := by
  cases op with
  | isn => cases cf <;> first | (rw [evE] at hE; injection hE with z _; exact z.symm) | cases hr
  | notn => cases cf <;> first | (rw [evE] at hE; injection hE with z _; exact z.symm) | cases hr
  | isb b =>
    cases cf with
    | bl q =>
      rw [evE] at hE
      injection hE with z _
      have : b = q := by simpa [rightB] using hr
      subst this
      exact z.symm
    | _ => cases hr
  | isnb b =>
    cases cf with
    | bl q =>
      rw [evE] at hE
      injection hE with z _
      have : b = q := by simpa [rightB] using hr
      subst this
      exact z.symm
    | _ => cases hr
  | _ => trivial
theorem LT.chain (C : Cok G g n cm su X W) {o1 o2 : Cm} {ca cb cc : CE} (r1 : rightB o1 cb = true) (r2 : rightB o2 cc = true) (at_ : At g su c H S o σ ρ) (h : Post g c H (fun cls dx H' => W cls dx σ H') Q (evE G (Tk.call G n) (.cmp2 o1 o2 ca cb cc) ρ S)) :
    tChainS (rCmp G g su W n o1) (rCmp G g su W n o2) (LT g su W (evE G (Tk.call G n) ca)) (LT g su W (evE G (Tk.call G n) cb)) (LT g su W (evE G (Tk.call G n) cc)) σ H Q := by
  rw [evE] at h
  refine LT.mk at_ (Post.bind h fun d S1 v H1 c1 _ q1 h1 => ?_)
  have a1 := at_.go q1.e q1.s
  have h1 : Post g c1 H1 (fun cls dx H' => W cls dx σ H') Q ((evE G (Tk.call G n) cb ρ S1).bind (kChainB G (Tk.call G n) o1 o2 (evE G (Tk.call G n) cc ρ) d)) := h1
  refine LT.mk a1 (Post.bind h1 fun e S2 u H2 c2 hE q2 h2 => ?_)
  have a2 := a1.go q2.e q2.s
  have h2 : Post g c2 H2 (fun cls dx H' => W cls dx σ H') Q ((cmpD G (Tk.call G n) o1 d e S2).bind (kChainC G (Tk.call G n) o2 (evE G (Tk.call G n) cc ρ) e)) := h2
  refine ⟨c2, S2, d, e, a2.su, q2.s, q1.r.ext q2.e, q2.r, right_of r1 hE, Post.bind h2 fun z S3 w H3 c3 hz q3 h3 => ?_⟩
  have a3 := a2.go q3.e q3.s
  obtain ⟨b, rfl⟩ := cmpD_bl hz
  refine ⟨b, bl_of q3.r, ?_⟩
  cases b with
  | false =>
    rw [if_neg Bool.false_ne_true]
    exact Post.bl q3.s h3
  | true =>
    rw [if_pos rfl]
    have h3 : Post g c3 H3 (fun cls dx H' => W cls dx σ H') Q ((evE G (Tk.call G n) cc ρ S3).bind (cmpD G (Tk.call G n) o2 e)) := h3
    refine LT.mk a3 (Post.bind h3 fun y S4 t H4 c4 hy q4 h4 => ?_)
    exact ⟨c4, S4, e, y, q4.e.su.trans a3.su, q4.s, (q2.r.ext q3.e).ext q4.e, q4.r, right_of r2 hy, h4⟩
theorem chain_bl {o1 o2 : Cm} {ca cb cc : CE} {cl : Cl} {d : D} {S1 : Sto} (h : evE G cl (.cmp2 o1 o2 ca cb cc) ρ S = .ok d S1) : ∃ b, d = .bl b := by
  rw [evE] at h
  cases q : evE G cl ca ρ S with
  | err _ _ _ => rw [q] at h; cases h
  | bad => rw [q] at h; cases h
  | ok x S2 =>
    rw [q] at h
    have h : (evE G cl cb ρ S2).bind (kChainB G cl o1 o2 (evE G cl cc ρ) x) = .ok d S1 := h
    cases q2 : evE G cl cb ρ S2 with
    | err _ _ _ => rw [q2] at h; cases h
    | bad => rw [q2] at h; cases h
    | ok y S3 =>
      rw [q2] at h
      have h : (cmpD G cl o1 x y S3).bind (kChainC G cl o2 (evE G cl cc ρ) y) = .ok d S1 := h
      cases q3 : cmpD G cl o1 x y S3 with
      | err _ _ _ => rw [q3] at h; cases h
      | bad => rw [q3] at h; cases h
      | ok z S4 =>
        rw [q3] at h
        obtain ⟨b, rfl⟩ := cmpD_bl q3
        cases b with
        | false => cases h; exact ⟨_, rfl⟩
        | true =>
          have h : (evE G cl cc ρ S4).bind (cmpD G cl o2 y) = .ok d S1 := h
          cases q4 : evE G cl cc ρ S4 with
          | err _ _ _ => rw [q4] at h; cases h
          | bad => rw [q4] at h; cases h
          | ok w S5 => rw [q4] at h; exact cmpD_bl h
theorem marks2_of {p q : CmpOp} {f h : Expr} (hs : noSet h = true) : lastMarks [p, q] [f, h] = false := by
  show behindInMarks q h = false
  exact marks_of hs
theorem s_chain (C : Cok G g n true su X W) {o1 o2 : Cm} {p q : CmpOp} {ca cb cc : CE} {e' : Expr} (hp : cmB o1 p = true) (hq : cmB o2 q = true) (r1 : rightB o1 cb = true) (r2 : rightB o2 cc = true) (hs : noSet e' = true)
    (ha : PE X a (LT g su W (evE G (Tk.call G n) ca))) (hb : PE X b (LT g su W (evE G (Tk.call G n) cb))) (hc : PE X e' (LT g su W (evE G (Tk.call G n) cc))) :
    PE X (.Compare a [p, q] [b, e'] pos) (LT g su W (evE G (Tk.call G n) (.cmp2 o1 o2 ca cb cc))) := by
  rw [cmB_eq hp, cmB_eq hq]
  refine PE.imp (pe_chainS (opr_cmp C o1) (opr_cmp C o2) ha hb hc (marks2_of hs)) fun σ H Q h => ?_
  obtain ⟨c, S, ρ, o, at_, h⟩ := h.open
  exact LT.chain C r1 r2 at_ h
theorem t_chain (C : Cok G g n true su X W) {o1 o2 : Cm} {p q : CmpOp} {ca cb cc : CE} {e' : Expr} (hp : cmB o1 p = true) (hq : cmB o2 q = true) (r1 : rightB o1 cb = true) (r2 : rightB o2 cc = true) (hs : noSet e' = true)
    (ha : PE X a (LT g su W (evE G (Tk.call G n) ca))) (hb : PE X b (LT g su W (evE G (Tk.call G n) cb))) (hc : PE X e' (LT g su W (evE G (Tk.call G n) cc))) :
    PT X (.Compare a [p, q] [b, e'] pos) (LC g su W (evE G (Tk.call G n) (.cmp2 o1 o2 ca cb cc))) := by
  rw [cmB_eq hp, cmB_eq hq]
  refine PT.imp (pt_chainS (opr_cmp C o1) (opr_cmp C o2) ha hb hc (marks2_of hs)) fun σ H Q h => ?_
  obtain ⟨c, S, ρ, o, hsu, r, re, h⟩ := h
  exact LT.chain C r1 r2 ⟨hsu, r, re⟩ (PostB.open h fun d S1 z => chain_bl z)
end
end Tk
/-! Core 38: the text's constants; isinstance of a name, a pair of classes. -/
namespace Tk
open PySem PySem.Spec PyProof.Rows L2
section
variable {G : Prog} {g : Wd} {n : Nat} {cm : Bool} {su : Su} {X : Cx} {W : WX} {c c' c1 c2 : Ct} {H H' H1 H2 : Hp} {S S' S1 S2 : Sto} {ρ ρ' : Ev} {o o' : List (Nat × Addr)} {σ σ' : L2.St} {Q : VK} {pos p1 p2 : Pos} {x : Str} {cl : Cl}
mutual
theorem lit_ev : ∀ (e : CE) (d : D), isLit e d = true → ∀ ρ S, evE G cl e ρ S = .ok d S ∧ still d = true ∧ fz d = d
  | .int i, .int j, h, ρ, S => by
    have h : i = j := of_decide_eq_true h
    subst h
    exact ⟨by rw [evE], rfl, rfl⟩
  | .tup es, .tup ds, h, ρ, S => by
    have h : (decide (ds.length ≤ 1000) && isLits es ds) = true := h
    rw [Bool.and_eq_true, decide_eq_true_eq] at h
    obtain ⟨h1, h2⟩ := lits_ev es ds h.2 ρ S
    refine ⟨?_, rfl, rfl⟩
    rw [evE, h1]
    show kTup ds S = _
    unfold kTup
    rw [h2]
    show (if ds.length ≤ LIM then R.ok (D.tup ds) S else .bad) = _
    rw [if_pos (Nat.le_trans h.1 (by decide))]
  | .never, d, h, _, _ => by cases d <;> cases h
  | .var _, d, h, _, _ => by cases d <;> cases h
  | .non, d, h, _, _ => by cases d <;> cases h
  | .bl _, d, h, _, _ => by cases d <;> cases h
  | .str _, d, h, _, _ => by cases d <;> cases h
  | .neg _, d, h, _, _ => by cases d <;> cases h
  | .not _, d, h, _, _ => by cases d <;> cases h
  | .bin _ _ _, d, h, _, _ => by cases d <;> cases h
  | .cmp _ _ _, d, h, _, _ => by cases d <;> cases h
  | .cmp2 _ _ _ _ _, d, h, _, _ => by cases d <;> cases h
  | .and _, d, h, _, _ => by cases d <;> cases h
  | .or _, d, h, _, _ => by cases d <;> cases h
  | .ite _ _ _, d, h, _, _ => by cases d <;> cases h
  | .lst _, d, h, _, _ => by cases d <;> cases h
  | .dic0, d, h, _, _ => by cases d <;> cases h
  | .ix _ _, d, h, _, _ => by cases d <;> cases h
  | .sl _ _ _, d, h, _, _ => by cases d <;> cases h
  | .nul, d, h, _, _ => by cases d <;> cases h
  | .attr _ _, d, h, _, _ => by cases d <;> cases h
  | .call _ _, d, h, _, _ => by cases d <;> cases h
  | .make _ _ _, d, h, _, _ => by cases d <;> cases h
  | .meth _ _ _, d, h, _, _ => by cases d <;> cases h
  | .blt _ _, d, h, _, _ => by cases d <;> cases h
  | .isi _ _, d, h, _, _ => by cases d <;> cases h
  | .comp _ _ _ _ _, d, h, _, _ => by cases d <;> cases h
  | .int _, .non, h, _, _ => nomatch h
  | .int _, .bl _, h, _, _ => nomatch h
  | .int _, .str _, h, _, _ => nomatch h
  | .int _, .tup _, h, _, _ => nomatch h
  | .int _, .lst _, h, _, _ => nomatch h
  | .int _, .obj _ _, h, _, _ => nomatch h
  | .int _, .dic0, h, _, _ => nomatch h
  | .int _, .scr _, h, _, _ => nomatch h
  | .int _, .loc _, h, _, _ => nomatch h
  | .int _, .own _ _, h, _, _ => nomatch h
  | .int _, .new _, h, _, _ => nomatch h
  | .int _, .exn _ _, h, _, _ => nomatch h
  | .tup _, .non, h, _, _ => nomatch h
  | .tup _, .bl _, h, _, _ => nomatch h
  | .tup _, .int _, h, _, _ => nomatch h
  | .tup _, .str _, h, _, _ => nomatch h
  | .tup _, .lst _, h, _, _ => nomatch h
  | .tup _, .obj _ _, h, _, _ => nomatch h
  | .tup _, .dic0, h, _, _ => nomatch h
  | .tup _, .scr _, h, _, _ => nomatch h
  | .tup _, .loc _, h, _, _ => nomatch h
  | .tup _, .own _ _, h, _, _ => nomatch h
  | .tup _, .new _, h, _, _ => nomatch h
  | .tup _, .exn _ _, h, _, _ => nomatch h
theorem lits_ev : ∀ (es : CEs) (ds : List D), isLits es ds = true → ∀ ρ S, evEs G cl es ρ S = .ok ds S ∧ fzs ds = some ds
  | .nil, [], _, ρ, S => ⟨by rw [evEs], rfl⟩
  | .cons e es, d :: ds, h, ρ, S => by
    have h : (isLit e d && isLits es ds) = true := h
    rw [Bool.and_eq_true] at h
    obtain ⟨h1, h2, h3⟩ := lit_ev e d h.1 ρ S
    obtain ⟨k1, k2⟩ := lits_ev es ds h.2 ρ S
    constructor
    · rw [evEs, h1]
      show (evEs G cl es ρ S).bind (kCons2 d) = _
      rw [k1]; rfl
    · unfold fzs at k2 ⊢
      rw [List.all_cons, h2, Bool.true_and, List.map_cons, h3]
      by_cases z : ds.all still = true
      · rw [if_pos z] at k2 ⊢
        rw [Option.some.inj k2]
      · rw [if_neg z] at k2; cases k2
  | .nil, _ :: _, h, _, _ => nomatch h
  | .cons _ _, [], h, _, _ => nomatch h
end
theorem s_glo (C : Cok G g n cm su X W) {e : CE} (hg : glB X.env.scope x = true) (hm : nmOk x = true) (h : gloB G x e = true) : PE X (.Name x p1) (LT g su W (evE G (Tk.call G n) e)) := by
  unfold gloB at h
  cases q : G.glos.lookup x with
  | none => rw [q] at h; cases h
  | some d =>
    rw [q] at h
    obtain ⟨u, v, m, r, rep⟩ := C.st.glo x d q
    refine PE.imp (pe_glob (gl_of hg) m r (nm_of hm).1) fun σ H Q k => ?_
    obtain ⟨c, S, ρ, o, at_, k⟩ := k.open
    rw [(lit_ev e d h ρ S).1] at k
    obtain ⟨e6, e7⟩ := rep_T (rep c H)
    exact Post.now at_.s e6 e7 k
theorem s_isi2 (C : Cok G g n true su X W) {i : Nat} {n1 n2 : String} {z y1 y2 : Str} {pz q1 q2 tp : Pos} {k : Nat} (hx : x = "isinstance") (hg : glB X.env.scope x = true) (hi : X.N[i]? = some z) (hv : visB X.env.scope z = true) (hm : nmOk z = true)
    (a1 : PE X (.Name y1 q1) (tC (.ty n1))) (a2 : PE X (.Name y2 q2) (tC (.ty n2))) (o1 : okQ G (.ty n1) = true) (o2 : okQ G (.ty n2) = true) :
    PE X (.Call (.Name x p1) [.Name z pz, .Tuple [.Name y1 q1, .Name y2 q2] k tp] [] pos) (LT g su W (evE G (Tk.call G n) (.or (.cons (.isi (.var i) (.ty n1)) (.cons (.isi (.var i) (.ty n2)) .nil))))) := by
  subst hx
  have hA : PA X [.Name z pz, .Tuple [.Name y1 q1, .Name y2 q2] k tp] (tCons (LT g su W (evE G (Tk.call G n) (.var i))) (tCons (tTup (tCons (tC (.ty n1)) (tCons (tC (.ty n2)) tNil))) tNil)) :=
    pa_cons (s_var C hi hv hm) (pa_cons (pe_tup (pa_cons a1 (pa_cons a2 pa_nil rfl) rfl)) pa_nil rfl) rfl
  refine PE.imp (pe_callB call_isiT (gl_of hg) (C.st.free _ (by decide +kernel)) (by decide +kernel) hA (by decide +kernel) (by decide +kernel) rfl (by rfl)) fun σ H Q h => ?_
  obtain ⟨c, S, ρ, o, at_, h⟩ := h.open
  have hsu := (C.cm rfl).2.2
  have ev : evE G (Tk.call G n) (.or (.cons (.isi (.var i) (.ty n1)) (.cons (.isi (.var i) (.ty n2)) .nil))) ρ S =
      ((varD i S ρ[i]?).bind (kIsi G (.ty n1))).bind (kAnd false fun S => (varD i S ρ[i]?).bind (kIsi G (.ty n2))) := by
    rw [evE, evAnd, evE, evE]
    congr 1
  rw [ev] at h
  have go : ∀ dv : D, (∀ S, varD i S ρ[i]? = .ok dv S) → (∀ k fs, dv ≠ .exn k fs) → tCB (rIsiT X.K) (tCons (LT g su W (evE G (Tk.call G n) (.var i))) (tCons (tTup (tCons (tC (.ty n1)) (tCons (tC (.ty n2)) tNil))) tNil)) σ H Q := by
    intro dv hdv nx
    have ks : ∀ q S, kIsi G q dv S = kIsi0 G q dv S := by
      intro q S
      cases dv with
      | exn k fs => exact absurd rfl (nx k fs)
      | _ => rfl
    have h : Post g c H (fun cls dx H' => W cls dx σ H') Q ((kIsi0 G (.ty n1) dv S).bind (kAnd false fun S => (varD i S ρ[i]?).bind (kIsi G (.ty n2)))) := by
      rw [hdv] at h
      have h : Post g c H (fun cls dx H' => W cls dx σ H') Q ((kIsi G (.ty n1) dv S).bind _) := h
      rw [ks] at h
      exact h
    by_cases h0 : cmpOk G S dv = true
    · have r0 : ∀ q, kIsi0 G q dv S = isiR S (isiB G dv q) := fun q => if_pos h0
      rw [r0] at h
      obtain ⟨c1, c2, c3⟩ := cmpOk_of h0
      have fin : ∀ b, PySem.W.kitAny X.K (tyV g dv) [.type n1, .type n2] = some b → Post g c H (fun cls dx H' => W cls dx σ H') Q (.ok (.bl b) S) → tCB (rIsiT X.K) (tCons (LT g su W (evE G (Tk.call G n) (.var i))) (tCons (tTup (tCons (tC (.ty n1)) (tCons (tC (.ty n2)) tNil))) tNil)) σ H Q := by
        intro b hk h
        refine LT.mk at_ ?_
        rw [evE, hdv]
        intro w H1 c1' q1
        refine ⟨lim_line (n := 2) (by decide), fun p hp => ?_⟩
        have cy := E.upd (ob := .tup [V.ty n1, V.ty n2]) q1.s.there hp
        refine ⟨w, p, [.ty n1, .ty n2], tyV g dv, [.type n1, .type n2], b, rfl, upd_same, .cons (.ty n1) (.cons (.ty n2) .nil), tyx_of C (q1.s.upd hp) (q1.r.ext cy) c1 c2 c3, hk, ?_⟩
        exact h (.bl b) _ c1' (Got.of (q1.e.trans cy) (by show Rep g _ _ _ _; rw [Rep]) (q1.s.upd hp) (by intro _ z; cases z))
      cases z1 : isiB G dv (.ty n1) with
      | none => rw [z1] at h; exact h.elim
      | some b1 =>
        rw [z1] at h
        have k1 := C.st.isi dv _ b1 (okD_of c1) o1 z1
        rw [C.K] at k1
        have k1 : PySem.W.kitOne X.K (tyV g dv) (.type n1) = some b1 := k1
        cases b1 with
        | true => exact fin true (by unfold PySem.W.kitAny; rw [k1]) h
        | false =>
          have h : Post g c H (fun cls dx H' => W cls dx σ H') Q ((varD i S ρ[i]?).bind (kIsi G (.ty n2))) := h
          rw [hdv] at h
          have h : Post g c H (fun cls dx H' => W cls dx σ H') Q (kIsi G (.ty n2) dv S) := h
          rw [ks, r0] at h
          cases z2 : isiB G dv (.ty n2) with
          | none => rw [z2] at h; exact h.elim
          | some b2 =>
            rw [z2] at h
            have k2 := C.st.isi dv _ b2 (okD_of c1) o2 z2
            rw [C.K] at k2
            have k2 : PySem.W.kitOne X.K (tyV g dv) (.type n2) = some b2 := k2
            refine fin b2 ?_ h
            unfold PySem.W.kitAny
            rw [k1]
            dsimp only
            unfold PySem.W.kitAny
            rw [k2]
            cases b2 <;> rfl
    · have r0 : kIsi0 G (.ty n1) dv S = .bad := if_neg h0
      rw [r0] at h
      exact h.elim
  cases q : ρ[i]? with
  | none => rw [q] at h; exact h.elim
  | some s =>
    cases s with
    | emp => rw [q] at h; exact h.elim
    | val d => 
      refine go d (fun S => by rw [q]; rfl) fun k fs z => ?_
      subst z
      obtain ⟨v, _, r⟩ := at_.e.val i _ q
      rw [Rep] at r; exact r
    | own xs => exact go (.own i xs) (fun S => by rw [q]; rfl) fun k fs z => by cases z
    | exc k fs =>
      obtain ⟨a, _, _, _, e1, _⟩ := at_.e.exc i k fs q
      rw [at_.su, hsu] at e1; cases e1
end
end Tk
/-! Core 19: all expressions. -/
namespace Tk
open PySem PySem.Spec PyProof.Rows L2

/-- an expression does what is computed -/
def EOk (G : Prog) (N : List Str) (g : Wd) (n : Nat) (cm : Bool) (sc : Scope) (ce : CE) (e : Expr) : Prop := ck G N cm sc ce e = true → ∀ (su : Su) (X : Cx) (W : WX), Cok G g n cm su X W → X.N = N → ScOk sc X.env.scope →
  PE X e (LT g su W (evE G (Tk.call G n) ce)) ∧ (tstX e = true → PT X e (LC g su W (evE G (Tk.call G n) ce)))
def IOk (G : Prog) (N : List Str) (g : Wd) (n : Nat) (cm : Bool) (sc : Scope) (ci : CI) (t e : Expr) : Prop := ckI G N cm sc ci t e = true → ∀ (su : Su) (X : Cx) (W : WX), Cok G g n cm su X W → X.N = N → ScOk sc X.env.scope →
  PI X t e (LI g X.K su W (evI G (Tk.call G n) ci)) ∧ noSet e = true
def AOk (G : Prog) (N : List Str) (g : Wd) (n : Nat) (cm : Bool) (sc : Scope) (ces : CEs) (es : List Expr) : Prop := cks G N cm sc ces es = true → ∀ (su : Su) (X : Cx) (W : WX), Cok G g n cm su X W → X.N = N → ScOk sc X.env.scope →
  PA X es (LA g su W (evEs G (Tk.call G n) ces))
def BOk (G : Prog) (N : List Str) (g : Wd) (n : Nat) (cm : Bool) (sc : Scope) (ces : CEs) (es : List Expr) : Prop := ckAnd G N cm sc ces es = true → ∀ (su : Su) (X : Cx) (W : WX), Cok G g n cm su X W → X.N = N → ScOk sc X.env.scope → ∀ pos,
  (PE X (.BoolOp .And es pos) (LT g su W (evAnd G (Tk.call G n) true ces)) ∧ PW X (.BoolOp .And es pos) (LC g su W (evAnd G (Tk.call G n) true ces))) ∧
  (PE X (.BoolOp .Or es pos) (LT g su W (evAnd G (Tk.call G n) false ces)) ∧ PW X (.BoolOp .Or es pos) (LC g su W (evAnd G (Tk.call G n) false ces)))
section
variable {G : Prog} {N : List Str} {g : Wd} {n : Nat} {cm : Bool}
/-- an expression that is tested as any value is -/
theorem any_of {su : Su} {X : Cx} {W : WX} {ce : CE} {e : Expr} (C : Cok G g n cm su X W) (h : PE X e (LT g su W (evE G (Tk.call G n) ce))) (he : ∀ whole, isTrue e X.env whole = (do let v ← whole; standAt e.pos; holding [v] (truthy v))) :
    PE X e (LT g su W (evE G (Tk.call G n) ce)) ∧ (tstX e = true → PT X e (LC g su W (evE G (Tk.call G n) ce))) := ⟨h, fun _ => t_any C h he⟩
theorem cks_len {sc : Scope} : ∀ {ces : CEs}, cks G N cm sc ces [] = true → ces = .nil
  | .nil, _ => rfl
  | .cons _ _, h => by rw [cks] at h <;> first | cases h | (intros; rename_i z; cases z) | (intro z; cases z)
theorem ty_blt {m : String} (h : m ∈ tyNames) : bootBuiltins (Str.ofString m) = some (.type m) ∧ Str.ofString m ∈ freeNames ∧ Str.ofString m ≠ "__name__" := by
  simp only [tyNames, List.mem_cons, List.not_mem_nil, or_false] at h
  rcases h with rfl | rfl | rfl | rfl | rfl | rfl | rfl <;> exact ⟨by decide +kernel, by decide +kernel, by decide +kernel⟩
def slB (G : Prog) (N : List Str) (cm : Bool) (sc : Scope) (lo : CE) : Option Expr → Bool
  | none => lo.isNul
  | some f => ck G N cm sc lo f
def ifB (G : Prog) (N : List Str) (cm : Bool) (sc : Scope) (cd : CE) : List Expr → Bool
  | [] => cd.isNul
  | [f] => tstX f && ck G N cm sc cd f
  | _ => false
theorem nul_false {sc : Scope} {lo : CE} {f : Expr} (h : ck G N cm sc lo f = true) : lo.isNul = false := by
  cases lo <;> first | rfl | skip
  rw [ck] at h <;> first | cases h | (intros; rename_i z _; cases z) | (intros; rename_i z; cases z) | (intro z; cases z)
theorem own_map {N : List Str} : ∀ {vs : List Nat}, (vs.all fun v => decide (v < N.length)) = true → (vs.filterMap fun v => (N[v]?).map fun x => (x, v)).map (·.2) = vs
  | [], _ => rfl
  | v :: vs, h => by
    rw [List.all_cons, Bool.and_eq_true, decide_eq_true_eq] at h
    rw [List.filterMap_cons, List.getElem?_eq_getElem h.1]
    exact congrArg (v :: ·) (own_map h.2)
theorem blk_mono {sc sc' scope : Scope} {own : List (Str × Nat)} (h : BlkOk N sc scope own) (m : ScOk sc sc') : BlkOk N sc' scope own := ⟨h.kind, h.uniq, h.ix, fun y hy e => m.cf _ (h.free y hy e), h.own⟩
theorem all_ok : (∀ sc ce e, EOk G N g n cm sc ce e) ∧ (∀ sc ci t e, IOk G N g n cm sc ci t e) ∧ (∀ sc ces es, AOk G N g n cm sc ces es) ∧ (∀ sc ces es, BOk G N g n cm sc ces es) := by
  refine ck.mutual_induct (EOk G N g n cm) (IOk G N g n cm) (AOk G N g n cm) (BOk G N g n cm) ?_ ?_ ?_ ?_ ?_ ?_ ?_ ?_ ?_ ?_ ?_ ?_ ?_ ?_ ?_ ?_ ?_ ?_ ?_ ?_ ?_ ?_ ?_ ?_ ?_ ?_ ?_ ?_ ?_ ?_ ?_ ?_ ?_ ?_ ?_ ?_ ?_ ?_ ?_ ?_ ?_ ?_ ?_ ?_
  case refine_1 =>
    intro sc e h su X W C hN m
    have z : ∀ σ H Q, ¬ LT g su W (evE G (Tk.call G n) .never) σ H Q := by
      intro σ H Q h
      obtain ⟨c, S, ρ, o, _, h⟩ := h.open
      rw [evE] at h; exact h.elim
    refine ⟨⟨fun pins s σ H Q I h => (z σ H Q h).elim⟩, fun _ => ⟨fun pins s σ H Q I h => ?_⟩⟩
    obtain ⟨c, S, ρ, o, _, _, _, h⟩ := h
    change PostB g c H _ _ ((evE G (Tk.call G n) .never ρ S).bind kTest) at h
    rw [evE] at h; exact h.elim
  case refine_2 =>
    intro sc i x pos h su X W C hN m
    rw [ck] at h
    simp only [Bool.and_eq_true, decide_eq_true_eq] at h
    subst hN
    exact any_of C (s_var C h.1.1 (m.vis x h.1.2) h.2) fun _ => rfl
  case refine_3 =>
    intro sc k pos h su X W C hN m
    exact any_of C (s_const .non .non (fun _ z => by cases z) (fun g c H => by show Rep g c H .non _; rw [Rep]) (fun ρ S => by rw [evE]) pe_non) fun _ => rfl
  case refine_4 =>
    intro sc b d k pos h su X W C hN m
    rw [ck] at h
    have : b = d := by simpa using h
    subst this
    exact any_of C (s_const (.bl b) (.bl b) (fun _ z => by cases z) (fun g c H => by show Rep g c H (.bl b) _; rw [Rep]) (fun ρ S => by rw [evE]) pe_bl) fun _ => rfl
  case refine_5 =>
    intro sc i j k pos h su X W C hN m
    rw [ck] at h
    have : i = j := by simpa using h
    subst this
    exact any_of C (s_const (.int i) (.int i) (fun _ z => by cases z) (fun g c H => by show Rep g c H (.int i) _; rw [Rep]) (fun ρ S => by rw [evE]) pe_int) fun _ => rfl
  case refine_6 =>
    intro sc i j k pos h su X W C hN m
    rw [ck] at h
    have : i = j := by simpa using h
    subst this
    exact any_of C (s_const (.str i) (.str i) (fun _ z => by cases z) (fun g c H => by show Rep g c H (.str i) _; rw [Rep]) (fun ρ S => by rw [evE]) pe_str) fun _ => rfl
  case refine_7 =>
    intro sc pos h su X W C hN m
    exact any_of C s_dic0 fun _ => rfl
  case refine_8 =>
    intro sc a e pos ih h su X W C hN m
    rw [ck] at h
    simp only [Bool.and_eq_true] at h
    obtain ⟨rfl, h2⟩ := h
    exact any_of C (s_neg C (ih h2 su X W C hN m).1) fun _ => rfl
  case refine_9 =>
    intro sc a e pos ih h su X W C hN m
    rw [ck] at h
    simp only [Bool.and_eq_true] at h
    obtain ⟨h1, h2⟩ := h
    obtain ⟨i1, i2⟩ := ih h2 su X W C hN m
    exact ⟨s_not C i1, fun _ => t_not C (i2 h1)⟩
  case refine_10 =>
    intro sc op a b e p f pos ih1 ih2 h su X W C hN m
    rw [ck] at h
    simp only [Bool.and_eq_true] at h
    obtain ⟨⟨⟨rfl, h2⟩, h3⟩, h4⟩ := h
    exact any_of C (s_bin C h2 (ih1 h3 su X W C hN m).1 (ih2 h4 su X W C hN m).1) fun _ => rfl
  case refine_11 =>
    intro sc op a b e p f pos ih1 ih2 h su X W C hN m
    rw [ck] at h
    simp only [Bool.and_eq_true] at h
    obtain ⟨⟨⟨⟨⟨rfl, h2⟩, h3⟩, h4⟩, h5⟩, h6⟩ := h
    have i1 := (ih1 h5 su X W C hN m).1
    have i2 := (ih2 h6 su X W C hN m).1
    exact ⟨s_cmp C h2 h3 h4 i1 i2, fun _ => t_cmp C h2 h3 h4 i1 i2⟩
  case refine_12 =>
    intro sc o1 o2 a b c e p q f w pos ih1 ih2 ih3 h su X W C hN m
    rw [ck] at h
    simp only [Bool.and_eq_true] at h
    obtain ⟨⟨⟨⟨⟨⟨⟨⟨⟨rfl, h2⟩, h3⟩, h4⟩, h5⟩, h6⟩, h7⟩, h8⟩, h9⟩, h10⟩ := h
    have i1 := (ih1 h8 su X W C hN m).1
    have i2 := (ih2 h9 su X W C hN m).1
    have i3 := (ih3 h10 su X W C hN m).1
    exact ⟨s_chain C h2 h3 h4 h5 h7 i1 i2 i3, fun _ => t_chain C h2 h3 h4 h5 h7 i1 i2 i3⟩
  case refine_13 =>
    intro sc es fs pos ih h su X W C hN m
    rw [ck] at h
    obtain ⟨⟨i1, i2⟩, _⟩ := ih h su X W C hN m pos
    rw [LT.eq (ev := evE G (Tk.call G n) (.and es)) (ev' := evAnd G (Tk.call G n) true es) fun ρ S => by rw [evE]]
    refine ⟨i1, fun _ => ?_⟩
    have e : (fun ρ S => (evE G (Tk.call G n) (.and es) ρ S).bind kTest) = fun ρ S => (evAnd G (Tk.call G n) true es ρ S).bind kTest := by funext ρ S; rw [evE]
    show PT X _ (LB g su W _)
    rw [e]
    exact i2.pt
  case refine_14 =>
    intro sc es fs pos ih h su X W C hN m
    rw [ck] at h
    obtain ⟨_, i1, i2⟩ := ih h su X W C hN m pos
    rw [LT.eq (ev := evE G (Tk.call G n) (.or es)) (ev' := evAnd G (Tk.call G n) false es) fun ρ S => by rw [evE]]
    refine ⟨i1, fun _ => ?_⟩
    have e : (fun ρ S => (evE G (Tk.call G n) (.or es) ρ S).bind kTest) = fun ρ S => (evAnd G (Tk.call G n) false es ρ S).bind kTest := by funext ρ S; rw [evE]
    show PT X _ (LB g su W _)
    rw [e]
    exact i2.pt
  case refine_15 =>
    intro sc c a b t e f pos ih1 ih2 ih3 h su X W C hN m
    rw [ck] at h
    simp only [Bool.and_eq_true] at h
    obtain ⟨⟨⟨h1, h2⟩, h3⟩, h4⟩ := h
    exact ⟨s_ite C ((ih1 h2 su X W C hN m).2 h1) (ih2 h3 su X W C hN m).1 (ih3 h4 su X W C hN m).1, fun z => by cases z⟩
  case refine_16 =>
    intro sc es fs k pos ih h su X W C hN m
    rw [ck] at h
    exact any_of C (s_tup (ih h su X W C hN m)) fun _ => rfl
  case refine_17 =>
    intro sc es fs pos ih h su X W C hN m
    rw [ck] at h
    exact any_of C (s_lst (ih h su X W C hN m)) fun _ => rfl
  case refine_18 =>
    intro sc a b e f pos ih1 ih2 h su X W C hN m
    rw [ck] at h
    simp only [Bool.and_eq_true] at h
    obtain ⟨⟨h1, h2⟩, h3⟩ := h
    exact any_of C (s_ix C h1 (ih1 h2 su X W C hN m).1 (ih2 h3 su X W C hN m).1) fun _ => rfl
  case refine_19 =>
    intro sc a lo hi e l u pos pos1 ih1 ih2 ih3 h su X W C hN m
    have h : (ck G N cm sc a e = true ∧ slB G N cm sc lo l = true) ∧ slB G N cm sc hi u = true := by
      cases l <;> cases u <;> (rw [ck] at h; simp only [Bool.and_eq_true] at h; exact h)
    obtain ⟨⟨h1, h2⟩, h3⟩ := h
    have po : ∀ (lo : CE) (l : Option Expr), (∀ f, EOk G N g n cm sc lo f) → slB G N cm sc lo l = true → PO X l (LO g su W fun ρ => optI lo.isNul (evE G (Tk.call G n) lo ρ)) := by
      intro lo l ih h
      cases l with
      | none =>
        have h : lo.isNul = true := h
        rw [h]
        exact po_nul
      | some f =>
        rw [nul_false h]
        exact po_e (ih f h su X W C hN m).1
    exact any_of C (s_sl C (ih1 h1 su X W C hN m).1 (po lo l ih2 h2) (po hi u ih3 h3)) fun _ => rfl
  case refine_20 =>
    intro sc a f e x pos ih h su X W C hN m
    rw [ck] at h
    simp only [Bool.and_eq_true, decide_eq_true_eq] at h
    obtain ⟨⟨h1, h2⟩, h3⟩ := h
    exact any_of C (s_attr C h1 h2 (ih h3 su X W C hN m).1) fun _ => rfl
  case refine_21 =>
    intro sc f es x pos fs pos1 ih h su X W C hN m
    rw [ck] at h
    simp only [Bool.and_eq_true] at h
    obtain ⟨⟨⟨⟨rfl, h2⟩, h3⟩, h4⟩, h5⟩ := h
    cases hd : G.defs[f]? with
    | none => rw [hd] at h4; cases h4
    | some d =>
      rw [hd] at h4
      simp only [Bool.and_eq_true, decide_eq_true_eq] at h4
      have hcl : d.cls = none := by
        cases z : d.cls with
        | none => rfl
        | some _ => rw [z] at h4; cases h4.1
      cases fs with
      | nil =>
        have := cks_len h5
        subst this
        exact any_of C (s_call0 C hd hcl h4.2 h2 (m.gl x h3)) fun _ => rfl
      | cons e es' => exact any_of C (s_call C hd hcl h4.2 h2 (m.gl x h3) (cks_plain h5) (ih h5 su X W C hN m)) fun _ => rfl
  case refine_22 =>
    intro sc k f es x pos e fs pos1 ih h su X W C hN m
    rw [ck] at h
    simp only [Bool.and_eq_true] at h
    obtain ⟨⟨⟨⟨⟨rfl, h2⟩, h3⟩, h4⟩, h5⟩, h6⟩ := h
    cases hc : G.clss[k]? with
    | none => rw [hc] at h5; cases h5
    | some cc =>
      cases hd : G.defs[f]? with
      | none => rw [hc, hd] at h5; cases h5
      | some d =>
        rw [hc, hd] at h5
        simp only [Bool.and_eq_true, decide_eq_true_eq] at h5
        exact any_of C (s_make C hc h5.1.1 hd h5.1.2 h5.2 h2 (m.gl x h3) (cks_plain h6) (ih h6 su X W C hN m)) fun _ => rfl
  case refine_23 =>
    intro sc a mm es ob x p0 fs p1 ih1 ih2 h su X W C hN m
    rw [ck] at h
    simp only [Bool.and_eq_true, decide_eq_true_eq] at h
    obtain ⟨⟨⟨⟨⟨⟨rfl, h2⟩, h3⟩, h4⟩, h5⟩, h6⟩, h7⟩ := h
    cases fs with
    | nil =>
      have := cks_len h7
      subst this
      exact any_of C (s_meth0 C h2 h4 h5 (ih1 h6 su X W C hN m).1) fun _ => rfl
    | cons e es' => exact any_of C (s_meth C h2 (cks_plain h7) h3 h4 h5 (ih1 h6 su X W C hN m).1 (ih2 h7 su X W C hN m)) fun _ => rfl
  case refine_24 =>
    intro sc b es x pos e fs pos1 ih h su X W C hN m
    rw [ck] at h
    simp only [Bool.and_eq_true, decide_eq_true_eq] at h
    obtain ⟨⟨⟨⟨⟨⟨rfl, h2⟩, h3⟩, h4⟩, h5⟩, h6⟩, h7⟩ := h
    exact any_of C (s_blt C h2 h3 h4 (m.gl x h5) (cks_plain h7) (ih h7 su X W C hN m)) fun _ => rfl
  case refine_25 =>
    intro sc a ty x pos e y pos1 pos2 ih h su X W C hN m
    rw [ck] at h
    simp only [Bool.and_eq_true, decide_eq_true_eq] at h
    obtain ⟨⟨⟨⟨⟨⟨⟨h1, h2⟩, h3⟩, h4⟩, h5⟩, h6⟩, hp⟩, h7⟩ := h
    obtain ⟨b1, b2, b3⟩ := ty_blt h3
    rw [← h4] at b1 b2 b3
    exact any_of C (s_isi C h1 (m.gl x h2) hp (pe_bltn (gl_of (m.gl y h5)) (C.st.free y b2) b1 (show RelV (V.ty ty) (Value.type ty) from rfl) b3 (nm_of h6).1) (.ty ty) rfl (decide_eq_true h3) (fun _ z => z) (ih h7 su X W C hN m).1) fun _ => rfl
  case refine_26 =>
    intro sc a k x pos e y pos1 pos2 ih h su X W C hN m
    rw [ck] at h
    simp only [Bool.and_eq_true, decide_eq_true_eq] at h
    obtain ⟨⟨⟨⟨⟨⟨h1, h2⟩, h3⟩, h4⟩, h5⟩, hp⟩, h6⟩ := h
    cases hc : G.clss[k]? with
    | none => rw [hc] at h5; cases h5
    | some cc =>
      rw [hc] at h5
      have h5 : cc.name = y := of_decide_eq_true h5
      have hm := C.st.mgc k cc hc
      rw [h5] at hm
      exact any_of C (s_isi C h1 (m.gl x h2) hp (pe_glob (gl_of (m.gl y h3)) hm (show RelV (V.ref (g.ca k)) (Value.ref (g.ca k)) from rfl) (nm_of h4).1) (.own _) rfl (by show (G.clss[k]?).isSome = true; rw [hc]; rfl) (fun _ z => z) (ih h6 su X W C hN m).1) fun _ => rfl
  case refine_27 =>
    intro sc vs tg it cd el e t i ifs sc1 pos ih1 ih2 ih3 h su X W C hN m
    have h : cm = true ∧ blkC N sc sc1 (vs.filterMap fun v => (N[v]?).map fun x => (x, v)) = true ∧ (vs.all fun v => decide (v < N.length)) = true ∧ ((tgIx tg).all fun i => decide (i ∈ vs)) = true ∧ ckT N sc1 tg t = true ∧ ckI G N cm sc it t i = true ∧
        ifB G N cm sc1 cd ifs = true ∧ ck G N cm sc1 el e = true := by
      rcases ifs with _ | ⟨f, _ | ⟨f2, r⟩⟩
      · rw [ck] at h; simp only [ifB, Bool.and_eq_true, and_assoc] at h ⊢; exact h
      · rw [ck] at h; simp only [ifB, Bool.and_eq_true, and_assoc] at h ⊢; exact h
      · exfalso
        rw [ck] at h
        · simp at h
        all_goals (intros; first | contradiction | (rename_i z; cases z))
    obtain ⟨rfl, h2, h3, h4, h5, h6, h7, h8⟩ := h
    subst hN
    obtain ⟨i1, i2⟩ := ih1 h6 su X W C rfl m
    refine any_of C (s_comp C (own_map h3) (blk_mono (blkOk_by h2) m) h4 h5 i2 i1 (fun s H A cl fp => ?_) (fun s H A cl fp => (ih3 h8 su _ noW (C.blk s H sc1 cl A fp) rfl scOk_relabel).1)) fun _ => rfl
    rcases ifs with _ | ⟨f, _ | ⟨f2, r⟩⟩
    · have h7 : cd.isNul = true := h7
      refine ⟨fun pins s' σ H' Q I h => pts_nil.run pins s' σ H' Q I ?_⟩
      unfold tstT at h
      rw [h7] at h
      obtain ⟨c, S, ρ, o, hsu, r, re, h⟩ := h
      exact h H' c (E.refl _ _) r
    · have h7 : (tstX f && ck G X.N true sc1 cd f) = true := h7
      rw [Bool.and_eq_true] at h7
      have q := pts_one ((ih2 f h7.2 su _ noW (C.blk s H sc1 cl A fp) rfl scOk_relabel).2 h7.1)
      refine ⟨fun pins s' σ H' Q I h => q.run pins s' σ H' Q I ?_⟩
      unfold tstT at h
      rw [nul_false h7.2] at h
      exact h
    · cases h7
  case refine_28 =>
    intro sc i x pos h su X W C hN m
    rw [ck] at h
    simp only [Bool.and_eq_true] at h
    exact any_of C (s_glo C (m.gl x h.1.1) h.1.2 h.2) fun _ => rfl
  case refine_29 =>
    intro sc es x pos h su X W C hN m
    rw [ck] at h
    simp only [Bool.and_eq_true] at h
    exact any_of C (s_glo C (m.gl x h.1.1) h.1.2 h.2) fun _ => rfl
  case refine_30 =>
    intro sc i n1 j n2 x p1 z pz y1 q1 y2 q2 k tp pos h su X W C hN m
    rw [ck] at h
    unfold isi2B at h
    simp only [Bool.and_eq_true, decide_eq_true_eq] at h
    obtain ⟨⟨⟨⟨⟨⟨⟨⟨⟨⟨⟨⟨⟨⟨rfl, rfl⟩, hx⟩, hg⟩, hi⟩, hv⟩, hm⟩, t1⟩, t2⟩, e1⟩, e2⟩, g1⟩, g2⟩, m1⟩, m2⟩ := h
    obtain ⟨b1, b2, b3⟩ := ty_blt t1
    obtain ⟨d1, d2, d3⟩ := ty_blt t2
    rw [← e1] at b1 b2 b3
    rw [← e2] at d1 d2 d3
    exact any_of C (s_isi2 C hx (m.gl x hg) (by rw [hN]; exact hi) (m.vis z hv) hm
      (pe_bltn (gl_of (m.gl y1 g1)) (C.st.free y1 b2) b1 (show RelV (V.ty n1) (Value.type n1) from rfl) b3 (nm_of m1).1)
      (pe_bltn (gl_of (m.gl y2 g2)) (C.st.free y2 d2) d1 (show RelV (V.ty n2) (Value.type n2) from rfl) d3 (nm_of m2).1) (decide_eq_true t1) (decide_eq_true t2)) fun _ => rfl
  case refine_31 =>
    intro t x x1
    intros
    intro hck
    rw [ck] at hck
    · cases hck
    all_goals assumption
  case refine_32 =>
    intro sc h su X W C hN m
    exact a_nil
  case refine_33 =>
    intro sc e es f fs ih1 ih2 h su X W C hN m
    rw [cks] at h
    simp only [Bool.and_eq_true] at h
    exact a_cons C h.1.1 (ih1 h.1.2 su X W C hN m).1 (ih2 h.2 su X W C hN m)
  case refine_34 =>
    intro t x x1
    intros
    intro hck
    rw [cks] at hck
    · cases hck
    all_goals assumption
  case refine_35 =>
    intro sc e f ih h su X W C hN m pos
    rw [ckAnd] at h
    rw [Bool.and_eq_true] at h
    obtain ⟨i1, i2⟩ := ih h.2 su X W C hN m
    exact ⟨⟨s_and1 i1, t_and1 .And (i2 h.1)⟩, s_and1 i1, t_and1 .Or (i2 h.1)⟩
  case refine_36 =>
    intro sc e e2 es f h2 fs ih1 ih2 h su X W C hN m pos
    rw [ckAnd] at h
    simp only [Bool.and_eq_true] at h
    obtain ⟨i1, i2⟩ := ih1 h.1.2 su X W C hN m
    obtain ⟨⟨j1, j2⟩, j3, j4⟩ := ih2 h.2 su X W C hN m pos
    exact ⟨⟨s_and C i1 j1, t_and C (i2 h.1.1) j2⟩, s_or C i1 j3, t_or C (i2 h.1.1) j4⟩
  case refine_37 =>
    intro t x x1
    intros
    intro hck
    rw [ckAnd] at hck
    · cases hck
    all_goals assumption
  case refine_38 =>
    intro sc a t x pos e pos1 ih h su X W C hN m
    rw [ckI] at h
    simp only [Bool.and_eq_true, decide_eq_true_eq] at h
    exact ⟨i_range1 C h.1.1.1 (m.gl x h.1.1.2) h.1.2 (ih h.2 su X W C hN m).1, rfl⟩
  case refine_39 =>
    intro sc a b t x pos e f pos1 ih1 ih2 h su X W C hN m
    rw [ckI] at h
    simp only [Bool.and_eq_true, decide_eq_true_eq] at h
    obtain ⟨⟨⟨⟨⟨h1, h2⟩, h3⟩, h4⟩, h5⟩, h6⟩ := h
    exact ⟨i_range2 C h1 (m.gl x h2) h3 h4 (ih1 h5 su X W C hN m).1 (ih2 h6 su X W C hN m).1, rfl⟩
  case refine_40 =>
    intro sc a el k p x pos e pos1 ih h su X W C hN m
    rw [ckI] at h
    simp only [Bool.and_eq_true, decide_eq_true_eq] at h
    exact ⟨i_enum C h.1.1.1 (m.gl x h.1.1.2) h.1.2 (ih h.2 su X W C hN m).1, rfl⟩
  case refine_41 =>
    intro sc a b el k p x pos e f pos1 ih1 ih2 h su X W C hN m
    rw [ckI] at h
    simp only [Bool.and_eq_true, decide_eq_true_eq] at h
    obtain ⟨⟨⟨⟨⟨h1, h2⟩, h3⟩, h4⟩, h5⟩, h6⟩ := h
    exact ⟨i_zip C h1 (m.gl x h2) h3 h4 (ih1 h5 su X W C hN m).1 (ih2 h6 su X W C hN m).1, rfl⟩
  case refine_42 =>
    intro sc a t x pos e pos1 ih h su X W C hN m
    rw [ckI] at h
    simp only [Bool.and_eq_true, decide_eq_true_eq] at h
    exact ⟨i_rev C h.1.1.1 (m.gl x h.1.1.2) h.1.2 (ih h.2 su X W C hN m).1, rfl⟩
  case refine_43 =>
    intro sc a t e ih h su X W C hN m
    rw [ckI] at h
    simp only [Bool.and_eq_true] at h
    exact ⟨i_seq C (ih h.2 su X W C hN m).1, h.1⟩
  case refine_44 =>
    intro t x x1 x2
    intros
    intro hck
    rw [ckI] at hck
    · cases hck
    all_goals assumption
end
end Tk
/-! Core 20: statements: the readings; names set; blocks. -/
namespace Tk
open PySem PySem.Spec PyProof.Rows L2

/-- a point to which all later states are held: its lists that may change -/
structure Bs where
  c : Ct
  H : Hp
  Y : List Addr
structure B (b : Bs) (c : Ct) (H : Hp) : Prop where
  pre : b.c.m <+: c.m
  x : ∀ a ∈ b.c.x, a ∉ b.Y → a ∈ c.x
  xn : ∀ a ∈ c.x, a ∈ b.c.x ∨ b.H a = none
  su : c.su = b.c.su
  keep : ∀ a o, b.H a = some o → a ∉ b.c.m → a ∉ b.Y → H a = some o ∧ a ∉ c.m
  dom : ∀ a, b.H a ≠ none → H a ≠ none
  bx : ∀ a ∈ b.c.x, b.H a ≠ none
/-- the state of a frame -/
structure Fr (g : Wd) (b : Bs) (su : Su) (c : Ct) (H : Hp) (S : Sto) (o : List (Nat × Addr)) (σ : L2.St) (ρ : Ev) : Prop where
  su : c.su = su
  bs : B b c H
  s : RelS g c H S
  e : RelE g c H o σ ρ
  y : ∀ i a, (i, a) ∈ o → b.H a = none ∨ a ∈ b.Y
/-- a list given away: fresh since the point -/
def Nw (g : Wd) (b : Bs) (c : Ct) (H : Hp) (S : Sto) (v : V) : D → Prop
  | .new xs => ∃ a vs, v = .ref a ∧ b.H a = none ∧ RelS g (c.plus a) H S ∧ H a = some (.lst vs) ∧ Reps g (c.plus a) H xs vs
  | .own _ _ => ∃ a, v = .ref a ∧ (b.H a = none ∨ a ∈ b.Y) ∧ a ∈ c.x
  | _ => True
def PostS (g : Wd) (b : Bs) (su : Su) (W : WX) (Dn : Ends) : O → Prop
  | .next ρ S => ∀ c H o σ, Fr g b su c H S o σ ρ → Dn.nx σ H
  | .brk ρ S => ∀ c H o σ, Fr g b su c H S o σ ρ → Dn.bk σ H
  | .cont ρ S => ∀ c H o σ, Fr g b su c H S o σ ρ → Dn.ct σ H
  | .ret d S => ∀ c H v, c.su = su → B b c H → RelS g c H S → RepT g c H d v → Nw g b c H S v d → Dn.rt v H
  | .err k fs ρ S => ∀ c H o σ dx, Fr g b su c H S o σ ρ → XRep g c H k fs dx → W (.ref (g.ca k)) dx σ H
  | .bad => False
def LSt (g : Wd) (b : Bs) (su : Su) (W : WX) (ev : Ev → Sto → O) : TS := fun Dn σ H => ∃ c S ρ o, Fr g b su c H S o σ ρ ∧ PostS g b su W Dn (ev ρ S)
section
variable {G : Prog} {g : Wd} {n : Nat} {cm : Bool} {su : Su} {X : Cx} {W : WX} {b : Bs} {c c' c1 c2 : Ct} {H H' H1 H2 : Hp} {S S' S1 S2 : Sto} {ρ ρ' : Ev} {o o' : List (Nat × Addr)} {σ σ' : L2.St} {Q : VK} {e : Expr} {pos p1 p2 : Pos} {x : Str} {Dn : Ends}
theorem B.go (q : B b c H) (e : E c H c' H') : B b c' H' where
  pre := q.pre.trans e.pre
  x := fun a h1 h2 => by rw [e.x]; exact q.x a h1 h2
  xn := fun a h => q.xn a (by rw [← e.x]; exact h)
  su := e.su.trans q.su
  keep := fun a ob h1 h2 h3 => let ⟨h4, h5⟩ := q.keep a ob h1 h2 h3; e.keep a ob h4 h5
  dom := fun a h => e.dom a (q.dom a h)
  bx := q.bx
theorem B.free (q : B b c H) {a : Addr} (h : H a = none) : b.H a = none := by
  cases w : b.H a with
  | none => rfl
  | some z => exact absurd h (q.dom a (by rw [w]; exact fun z => nomatch z))
theorem Fr.at (f : Fr g b su c H S o σ ρ) : At g su c H S o σ ρ := ⟨f.su, f.s, f.e⟩
theorem Fr.go (f : Fr g b su c H S o σ ρ) (e : E c H c' H') (s : RelS g c' H' S') : Fr g b su c' H' S' o σ ρ :=
  ⟨e.su.trans f.su, f.bs.go e, s, f.e.ext e fun a h => (f.s.x a h).1, f.y⟩
/-- a statement's first part, then the rest -/
theorem PostS.bE {r : R D} {k : D → Sto → O} (f : Fr g b su c H S o σ ρ) (h : PostS g b su W Dn (r.b ρ k)) {Q1 : VK}
    (hk : ∀ d S1 v H1 c1, r = .ok d S1 → Got g c H c1 H1 d v S1 → Fr g b su c1 H1 S1 o σ ρ → PostS g b su W Dn (k d S1) → Q1 v H1) : Post g c H (fun cls dx H' => W cls dx σ H') Q1 r := by
  cases r with
  | ok d S1 => exact fun v H1 c1 q => hk d S1 v H1 c1 rfl q (f.go q.e q.s) h
  | err k fs S1 => exact fun H1 c1 dx e s x => h c1 H1 o σ dx (f.go e s) x
  | bad => exact h.elim
theorem PostS.bA {r : R (List D)} {k : List D → Sto → O} (f : Fr g b su c H S o σ ρ) (h : PostS g b su W Dn (r.b ρ k)) {Q1 : List V → Hp → Prop}
    (hk : ∀ d S1 v H1 c1, r = .ok d S1 → Gots g c H c1 H1 d v S1 → Fr g b su c1 H1 S1 o σ ρ → PostS g b su W Dn (k d S1) → Q1 v H1) : PostA g c H (fun cls dx H' => W cls dx σ H') Q1 r := by
  cases r with
  | ok d S1 => exact fun v H1 c1 q => hk d S1 v H1 c1 rfl q (f.go q.e q.s) h
  | err k fs S1 => exact fun H1 c1 dx e s x => h c1 H1 o σ dx (f.go e s) x
  | bad => exact h.elim
theorem PostS.bB {r : R D} {k : D → Sto → O} (f : Fr g b su c H S o σ ρ) (h : PostS g b su W Dn (r.b ρ k)) {Q1 : Bool → Hp → Prop}
    (hk : ∀ d S1 H1 c1 t, r = .ok d S1 → truth S1 d = some t → Fr g b su c1 H1 S1 o σ ρ → PostS g b su W Dn (k d S1) → Q1 t H1) (ht : ∀ d S1, r = .ok d S1 → PostS g b su W Dn (k d S1) → truth S1 d ≠ none) :
    PostB g c H (fun cls dx H' => W cls dx σ H') Q1 (r.bind kTest) := by
  cases r with
  | ok d S1 =>
    show PostB g c H _ Q1 (kTest d S1)
    unfold kTest
    cases q : truth S1 d with
    | none => exact absurd q (ht d S1 rfl h)
    | some t => exact fun H1 c1 e s => hk d S1 H1 c1 t rfl q (f.go e s) h
  | err k fs S1 => exact fun H1 c1 dx e s x => h c1 H1 o σ dx (f.go e s) x
  | bad => exact h.elim

/-! ### names -/
theorem Fr.set (f : Fr g b su c H S o σ ρ) {i : Nat} {d : D} {v : V} (hv : Rep g c H d v) : Fr g b su c H S o (σ.set i (some v)) (ρ.set i (.val d)) := ⟨f.su, f.bs, f.s, f.e.set hv, f.y⟩
theorem RelE.own_set (re : RelE g c H o σ ρ) {i : Nat} {xs : List D} {vs : List V} {a : Addr} (hs : ∀ j q, (j, q) ∈ o → q ≠ a) (hx : a ∈ c.x) (hH : H a = some (.lst vs)) (hv : Reps g c H xs vs) :
    RelE g c H ((i, a) :: o) (σ.set i (some (.ref a))) (ρ.set i (.own xs)) where
  len := by rw [List.length_set, List.length_set]; exact re.len
  val := fun j e h => by
    rw [List.getElem?_set] at h ⊢
    by_cases q : i = j
    · subst q
      rw [if_pos rfl] at h
      by_cases hl : i < ρ.length
      · rw [if_pos hl] at h; cases h
      · rw [if_neg hl] at h; cases h
    · rw [if_neg q] at h ⊢
      exact re.val j e h
  own := fun j ys h => by
    rw [List.getElem?_set] at h ⊢
    by_cases q : i = j
    · subst q
      rw [if_pos rfl] at h ⊢
      by_cases hl : i < ρ.length
      · rw [if_pos hl] at h
        cases h
        rw [re.len, if_pos hl]
        exact ⟨a, vs, rfl, List.mem_cons_self, hH, hv⟩
      · rw [if_neg hl] at h; cases h
    · rw [if_neg q] at h ⊢
      obtain ⟨p, ws, h1, h2, h3, h4⟩ := re.own j ys h
      exact ⟨p, ws, h1, List.mem_cons_of_mem _ h2, h3, h4⟩
  exc := fun j k fs h => by
    rw [List.getElem?_set] at h ⊢
    by_cases q : i = j
    · subst q
      rw [if_pos rfl] at h
      by_cases hl : i < ρ.length
      · rw [if_pos hl] at h; cases h
      · rw [if_neg hl] at h; cases h
    · rw [if_neg q] at h ⊢
      exact re.exc j k fs h
  sub := fun j q h => by
    rcases List.mem_cons.mp h with z | z
    · cases z; exact hx
    · exact re.sub j q z
  uni := fun j k q h1 h2 => by
    rcases List.mem_cons.mp h1 with z | z <;> rcases List.mem_cons.mp h2 with w | w
    · cases z; cases w; rfl
    · cases z; exact absurd rfl (hs _ _ w)
    · cases w; exact absurd rfl (hs _ _ z)
    · exact re.uni j k q z w
/-- the new list becomes the name's own -/
theorem Fr.setO (f : Fr g b su c H S o σ ρ) {i : Nat} {xs : List D} {v : V} (q : Got g c H c1 H1 (.new xs) v S1) : ∃ c' o', Fr g b su c' H1 S1 o' (σ.set i (some v)) (ρ.set i (.own xs)) := by
  obtain ⟨a, vs, rfl, h2, h3, h4, h5⟩ := q.n xs rfl
  have k := kp_plus q.e h2
  have hx : ∀ p ∈ c.x, H p ≠ none := fun p h => (f.s.x p h).2
  refine ⟨c1.plus a, (i, a) :: o, q.e.su.trans f.su, ?_, h3, ?_, ?_⟩
  · have bb := f.bs.go q.e
    exact ⟨bb.pre, fun p h1 h2 => List.mem_cons_of_mem _ (bb.x p h1 h2), fun p h => by
      rcases List.mem_cons.mp h with z | z
      · subst z; exact .inr (f.bs.free h2)
      · exact bb.xn p z, bb.su, bb.keep, bb.dom, bb.bx⟩
  · have re := f.e.kp (c' := c1.plus a) q.e.su k (fun p h => (f.s.x p h).1) fun p h => List.mem_cons_of_mem _ (by rw [q.e.x]; exact h)
    exact re.own_set (fun j p h z => hx p (f.e.sub j p h) (by rw [z]; exact h2)) List.mem_cons_self h4 h5
  · intro j p h
    rcases List.mem_cons.mp h with z | z
    · cases z; exact .inl (f.bs.free h2)
    · exact f.y j p z
/-- the new list becomes a cell -/
theorem Fr.setL (f : Fr g b su c H S o σ ρ) {i : Nat} {xs : List D} {v : V} (q : Got g c H c1 H1 (.new xs) v S1) : ∃ c' , Fr g b su c' H1 (S1 ++ [.lst xs]) o (σ.set i (some v)) (ρ.set i (.val (.loc S1.length))) := by
  obtain ⟨a, vs, rfl, h2, h3, h4, h5⟩ := q.n xs rfl
  have k := kp_plus q.e h2
  have cy : Cy (c1.plus a) H1 ⟨c1.m ++ [a], c1.x, c1.su⟩ H1 := {
    fx := fun p ob ⟨z1, z2, z3⟩ => ⟨z1, fun z => (List.mem_append.mp z).elim z2 fun z => z3 (by rw [List.mem_singleton] at z; rw [z]; exact List.mem_cons_self), fun z => z3 (List.mem_cons_of_mem _ z)⟩
    loc := fun j p h => by
      show (c1.m ++ [a])[j]? = some p
      have h : c1.m[j]? = some p := h
      rw [List.getElem?_append_left (List.getElem?_eq_some_iff.mp h).1]; exact h }
  have am : a ∉ c1.m := (h3.x a List.mem_cons_self).1
  have ax : a ∉ c1.x := fun z => by
    rw [q.e.x] at z
    exact (f.s.x a z).2 h2
  have s' : RelS g ⟨c1.m ++ [a], c1.x, c1.su⟩ H1 (S1 ++ [.lst xs]) := {
    nd := by
      show (c1.m ++ [a]).Nodup
      rw [List.nodup_append]
      exact ⟨h3.nd, by simp, fun p hp r hr z => by rw [List.mem_singleton] at hr; rw [z, hr] at hp; exact am hp⟩
    len := by
      show (c1.m ++ [a]).length = _
      rw [List.length_append, List.length_append, show c1.m.length = S1.length from h3.len]; rfl
    x := fun p hp => ⟨fun z => (List.mem_append.mp z).elim (h3.x p (List.mem_cons_of_mem _ hp)).1 fun z => by rw [List.mem_singleton] at z; rw [z] at hp; exact ax hp, (h3.x p (List.mem_cons_of_mem _ hp)).2⟩
    ok := fun j ce p z1 z2 => by
      have hlen : c1.m.length = S1.length := h3.len
      by_cases hj : j < S1.length
      · rw [List.getElem?_append_left hj] at z1
        have z2 : (c1.m ++ [a])[j]? = some p := z2
        rw [List.getElem?_append_left (by rw [hlen]; exact hj)] at z2
        exact (h3.ok j ce p z1 z2).cy cy fun ob z => z
      · have hj' : j = S1.length := by
          have := (List.getElem?_eq_some_iff.mp z1).1
          simp at this; omega
        subst hj'
        have z2 : (c1.m ++ [a])[S1.length]? = some p := z2
        rw [← hlen] at z2
        simp at z1 z2
        subst z1 z2
        exact ⟨vs, h4, Reps.cy cy _ _ h5⟩ }
  have k2 : Kp c H ⟨c1.m ++ [a], c1.x, c1.su⟩ H1 := ⟨⟨fun p ob h => cy.fx _ _ (k.1.fx _ _ h), fun j p h => cy.loc _ _ (k.1.loc _ _ h)⟩, k.2⟩
  refine ⟨⟨c1.m ++ [a], c1.x, c1.su⟩, q.e.su.trans f.su, ?_, s', ?_, f.y⟩
  · have bb := f.bs.go q.e
    exact ⟨bb.pre.trans (List.prefix_append _ _), bb.x, bb.xn, bb.su, fun p ob z1 z2 z3 => let ⟨z4, z5⟩ := bb.keep p ob z1 z2 z3; ⟨z4, fun z => (List.mem_append.mp z).elim z5 fun z => by
      rw [List.mem_singleton] at z; rw [z, f.bs.free h2] at z1; cases z1⟩, bb.dom, bb.bx⟩
  · have re := f.e.kp (c' := ⟨c1.m ++ [a], c1.x, c1.su⟩) q.e.su k2 (fun p h => (f.s.x p h).1) fun p h => by rw [show (Ct.mk (c1.m ++ [a]) c1.x c1.su).x = c1.x from rfl, q.e.x]; exact h
    refine re.set ?_
    rw [Rep]
    refine ⟨a, rfl, ?_⟩
    show (c1.m ++ [a])[S1.length]? = some a
    rw [← show c1.m.length = S1.length from h3.len]
    simp
/-- statements' context -/
structure Sok (sc : Scope) (X : Cx) : Prop where
  loc : LocOk sc X
  vis : ScOk sc X.env.scope
  po : PassesOwn (model X.prog X.w) X.A X.env X.xe
  st : X.stack = X.env :: X.outer
  fr : X.env.frame = some X.env.locals
  sc : X.env.scope = sc
  kd : X.env.scope.kind = .function
theorem s_set {sc : Scope} (C : Cok G g n cm su X W) (K : Sok sc X) {ce : CE} {i : Nat} (hi : X.N[i]? = some x) (hl : locB sc x = true) (hs : swapsWith e (some (.Name x p1)) pos.line X.env = pure false) (he : PE X e (LT g su W (evE G (Tk.call G n) ce))) :
    PS X (.Assign [.Name x p1] e pos) (LSt g b su W (evS G (Tk.call G n) (.set i ce))) := by
  refine PS.imp (ps_set C.nd hi (K.loc x hl).1 he hs (K.loc x hl).2) fun Dn σ H h => ?_
  obtain ⟨c, S, ρ, o, f, h⟩ := h
  rw [evS] at h
  refine LT.mk f.at (PostS.bE f h fun d S1 v H1 c1 _ q f1 h1 => ?_)
  unfold sSet at h1
  by_cases hd : still d = true
  · rw [if_pos hd] at h1
    exact h1 c1 H1 o _ (f1.set (q.r.rest hd))
  · rw [if_neg hd] at h1; exact h1.elim
theorem s_setO {sc : Scope} (C : Cok G g n cm su X W) (K : Sok sc X) {ce : CE} {i : Nat} (hi : X.N[i]? = some x) (hl : locB sc x = true) (hs : swapsWith e (some (.Name x p1)) pos.line X.env = pure false) (he : PE X e (LT g su W (evE G (Tk.call G n) ce))) :
    PS X (.Assign [.Name x p1] e pos) (LSt g b su W (evS G (Tk.call G n) (.setO i ce))) := by
  refine PS.imp (ps_set C.nd hi (K.loc x hl).1 he hs (K.loc x hl).2) fun Dn σ H h => ?_
  obtain ⟨c, S, ρ, o, f, h⟩ := h
  rw [evS] at h
  refine LT.mk f.at (PostS.bE f h fun d S1 v H1 c1 _ q f1 h1 => ?_)
  cases d with
  | new xs =>
    obtain ⟨c', o', f'⟩ := f.setO (i := i) q
    exact h1 c' H1 o' _ f'
  | _ => exact h1.elim
theorem s_setL {sc : Scope} (C : Cok G g n cm su X W) (K : Sok sc X) {ce : CE} {i : Nat} (hi : X.N[i]? = some x) (hl : locB sc x = true) (hs : swapsWith e (some (.Name x p1)) pos.line X.env = pure false) (he : PE X e (LT g su W (evE G (Tk.call G n) ce))) :
    PS X (.Assign [.Name x p1] e pos) (LSt g b su W (evS G (Tk.call G n) (.setL i ce))) := by
  refine PS.imp (ps_set C.nd hi (K.loc x hl).1 he hs (K.loc x hl).2) fun Dn σ H h => ?_
  obtain ⟨c, S, ρ, o, f, h⟩ := h
  rw [evS] at h
  refine LT.mk f.at (PostS.bE f h fun d S1 v H1 c1 _ q f1 h1 => ?_)
  cases d with
  | new xs =>
    obtain ⟨c', f'⟩ := f.setL (i := i) q
    exact h1 c' H1 o _ f'
  | _ => exact h1.elim

/-! ### small statements -/
theorem s_expr {ce : CE} (hs : swapsWith e none pos.line X.env = pure false) (he : PE X e (LT g su W (evE G (Tk.call G n) ce))) : PS X (.Expr e pos) (LSt g b su W (evS G (Tk.call G n) (.expr ce))) := by
  refine PS.imp (ps_expr he hs) fun Dn σ H h => ?_
  obtain ⟨c, S, ρ, o, f, h⟩ := h
  rw [evS] at h
  exact LT.mk f.at (PostS.bE f h fun d S1 v H1 c1 _ q f1 h1 => h1 c1 H1 o _ f1)
theorem nw_of (f : Fr g b su c H S o σ ρ) {d : D} {v : V} (q : Got g c H c1 H1 d v S1) (hd : ∀ i xs, d = .own i xs → ∃ a, v = .ref a ∧ (i, a) ∈ o) : Nw g b c1 H1 S1 v d := by
  cases d with
  | new xs =>
    obtain ⟨a, vs, h1, h2, h3⟩ := q.n xs rfl
    exact ⟨a, vs, h1, f.bs.free h2, h3⟩
  | own i xs =>
    obtain ⟨a, h1, h2⟩ := hd i xs rfl
    exact ⟨a, h1, f.y i a h2, by rw [q.e.x]; exact f.e.sub i a h2⟩
  | _ => trivial
theorem s_ret {ce : CE} (he : PE X e (LT g su W (evE G (Tk.call G n) ce))) : PS X (.Return (some e) pos) (LSt g b su W (evS G (Tk.call G n) (.ret ce))) := by
  refine PS.imp (ps_ret he) fun Dn σ H h => ?_
  obtain ⟨c, S, ρ, o, f, h⟩ := h
  rw [evS] at h
  refine LT.mk f.at (PostS.bE f h fun d S1 v H1 c1 _ q f1 h1 => ?_)
  unfold sRet at h1
  cases z : isOw d with
  | true => rw [z, if_pos rfl] at h1; exact h1.elim
  | false =>
    rw [z, if_neg Bool.false_ne_true] at h1
    exact h1 c1 H1 v f1.su f1.bs q.s q.r (nw_of f q fun i xs w => by rw [w] at z; cases z)
theorem s_retO (C : Cok G g n cm su X W) {i : Nat} (hN : X.N[i]? = some x) (hv : visB X.env.scope x = true) (hm : nmOk x = true) : PS X (.Return (some (.Name x p1)) pos) (LSt g b su W (evS G (Tk.call G n) (.retO i))) := by
  refine PS.imp (ps_ret (pe_var (i := i) hN (vis_of hv) (nm_of hm).1 (nm_of hm).2)) fun Dn σ H h => ?_
  obtain ⟨c, S, ρ, o, f, h⟩ := h
  rw [evS] at h
  cases q : ρ[i]? with
  | none => rw [q] at h; exact h.elim
  | some s =>
    rw [q] at h
    cases s with
    | emp => exact h.elim
    | val d => exact h.elim
    | exc k fs => exact h.elim
    | own xs =>
      obtain ⟨a, vs, h1, h2, h3, h4⟩ := f.e.own i xs q
      have hx := f.e.sub i a h2
      exact ⟨.ref a, h1, h c H (.ref a) f.su f.bs f.s ⟨a, vs, rfl, h3, (f.s.x a hx).1, h4⟩ ⟨a, rfl, f.y i a h2, hx⟩⟩
theorem s_retN : PS X (.Return none pos) (LSt g b su W (evS G (Tk.call G n) .retN)) := by
  refine PS.imp ps_retN fun Dn σ H h => ?_
  obtain ⟨c, S, ρ, o, f, h⟩ := h
  rw [evS] at h
  exact h c H .non f.su f.bs f.s (by show Rep g c H .non _; rw [Rep]) trivial
theorem s_pass : PS X (.Pass pos) (LSt g b su W (evS G (Tk.call G n) .pass)) := by
  refine PS.imp ps_pass fun Dn σ H h => ?_
  obtain ⟨c, S, ρ, o, f, h⟩ := h
  rw [evS] at h
  exact h c H o σ f
theorem s_brk : PS X (.Break pos) (LSt g b su W (evS G (Tk.call G n) .brk)) := by
  refine PS.imp ps_break fun Dn σ H h => ?_
  obtain ⟨c, S, ρ, o, f, h⟩ := h
  rw [evS] at h
  exact h c H o σ f
theorem s_cont : PS X (.Continue pos) (LSt g b su W (evS G (Tk.call G n) .cont)) := by
  refine PS.imp ps_continue fun Dn σ H h => ?_
  obtain ⟨c, S, ρ, o, f, h⟩ := h
  rw [evS] at h
  exact h c H o σ f
end
end Tk
/-! Core 21: blocks, if, targets, loops. -/
namespace Tk
open PySem PySem.Spec PyProof.Rows L2

section
variable {G : Prog} {g : Wd} {n : Nat} {cm : Bool} {su : Su} {X : Cx} {W : WX} {b : Bs} {c c' c1 c2 : Ct} {H H' H1 H2 : Hp} {S S' S1 S2 : Sto} {ρ ρ' : Ev} {o o' : List (Nat × Addr)} {σ σ' : L2.St} {Q : VK} {e t : Expr} {pos p1 p2 : Pos} {x : Str} {Dn : Ends} {st : Stmt} {sts : List Stmt}

/-! ### blocks -/
theorem b_nil : PSs X [] (LSt g b su W (evB G (Tk.call G n) .nil)) := by
  refine PSs.imp pss_nil fun Dn σ H h => ?_
  obtain ⟨c, S, ρ, o, f, h⟩ := h
  rw [evB] at h
  exact h c H o σ f
theorem b_cons {s : CS} {r : CB} (h1 : PS X st (LSt g b su W (evS G (Tk.call G n) s))) (h2 : PSs X sts (LSt g b su W (evB G (Tk.call G n) r))) : PSs X (st :: sts) (LSt g b su W (evB G (Tk.call G n) (.cons s r))) := by
  refine PSs.imp (pss_cons h1 h2) fun Dn σ H h => ?_
  obtain ⟨c, S, ρ, o, f, h⟩ := h
  rw [evB] at h
  refine ⟨c, S, ρ, o, f, ?_⟩
  cases q : evS G (Tk.call G n) s ρ S with
  | next ρ1 S1 => rw [q] at h; exact fun c2 H2 o2 σ2 f2 => ⟨c2, S1, ρ1, o2, f2, h⟩
  | ret d S1 => rw [q] at h; exact h
  | brk ρ1 S1 => rw [q] at h; exact h
  | cont ρ1 S1 => rw [q] at h; exact h
  | err k fs ρ1 S1 => rw [q] at h; exact h
  | bad => rw [q] at h; exact h
/-- an own list comes to rest -/
theorem Fr.frz (f : Fr g b su c H S o σ ρ) {i : Nat} {xs : List D} (h : ρ[i]? = some (.own xs)) : ∃ c' o', Fr g b su c' H S o' σ (ρ.set i (.val (.lst xs))) := by
  obtain ⟨a, vs, h1, h2, h3, h4⟩ := f.e.own i xs h
  have ax := f.e.sub i a h2
  have am := (f.s.x a ax).1
  have cy : Cy c H ⟨c.m, c.x.filter (· ≠ a), c.su⟩ H := ⟨fun p ob ⟨z1, z2, z3⟩ => ⟨z1, z2, fun z => z3 (List.mem_filter.mp z).1⟩, fun _ _ z => z⟩
  have bn : b.H a = none ∨ a ∈ b.Y := f.y i a h2
  refine ⟨⟨c.m, c.x.filter (· ≠ a), c.su⟩, o.filter fun p => p.2 ≠ a, f.su, ⟨f.bs.pre, fun p z1 z2 => ?_, fun p z => f.bs.xn p (List.mem_filter.mp z).1, f.bs.su, f.bs.keep, f.bs.dom, f.bs.bx⟩, ⟨f.s.nd, f.s.len, fun p z => f.s.x p (List.mem_filter.mp z).1, fun k ce p z1 z2 => (f.s.ok k ce p z1 z2).cy cy fun _ z => z⟩, ?_, fun j p z => f.y j p (List.mem_filter.mp z).1⟩
  · refine List.mem_filter.mpr ⟨f.bs.x p z1 z2, ?_⟩
    refine decide_eq_true fun z => ?_
    subst z
    rcases bn with z | z
    · exact f.bs.bx p z1 z
    · exact z2 z
  · refine ⟨by rw [List.length_set]; exact f.e.len, fun j d z => ?_, fun j ys z => ?_, fun j k fs z => ?_, fun j p z => ?_, fun j k p z1 z2 => f.e.uni j k p (List.mem_filter.mp z1).1 (List.mem_filter.mp z2).1⟩
    · rw [List.getElem?_set] at z
      by_cases q : i = j
      · subst q
        rw [if_pos rfl] at z
        by_cases hl : i < ρ.length
        · rw [if_pos hl] at z
          cases z
          refine ⟨.ref a, h1, ?_⟩
          rw [Rep]
          exact ⟨a, vs, rfl, ⟨h3, am, fun z => by have := (List.mem_filter.mp z).2; simp at this⟩, Reps.cy cy _ _ h4⟩
        · rw [if_neg hl] at z; cases z
      · rw [if_neg q] at z
        obtain ⟨v, w1, w2⟩ := f.e.val j d z
        exact ⟨v, w1, Rep.cy cy _ _ w2⟩
    · rw [List.getElem?_set] at z
      by_cases q : i = j
      · subst q
        rw [if_pos rfl] at z
        by_cases hl : i < ρ.length
        · rw [if_pos hl] at z; cases z
        · rw [if_neg hl] at z; cases z
      · rw [if_neg q] at z
        obtain ⟨p, ws, w1, w2, w3, w4⟩ := f.e.own j ys z
        exact ⟨p, ws, w1, List.mem_filter.mpr ⟨w2, decide_eq_true fun z => q (f.e.uni i j a h2 (by rw [← z]; exact w2))⟩, w3, Reps.cy cy _ _ w4⟩
    · rw [List.getElem?_set] at z
      by_cases q : i = j
      · subst q
        rw [if_pos rfl] at z
        by_cases hl : i < ρ.length
        · rw [if_pos hl] at z; cases z
        · rw [if_neg hl] at z; cases z
      · rw [if_neg q] at z
        obtain ⟨p, w1, w2⟩ := f.e.exc j k fs z
        exact ⟨p, w1, w2.cy cy rfl⟩
    · obtain ⟨w1, w2⟩ := List.mem_filter.mp z
      exact List.mem_filter.mpr ⟨f.e.sub j p w1, w2⟩
theorem b_frz {i : Nat} {r : CB} (h : PSs X sts (LSt g b su W (evB G (Tk.call G n) r))) : PSs X sts (LSt g b su W (evB G (Tk.call G n) (.frz i r))) := by
  refine PSs.imp h fun Dn σ H h => ?_
  obtain ⟨c, S, ρ, o, f, h⟩ := h
  rw [evB] at h
  cases q : ρ[i]? with
  | none => rw [q] at h; exact h.elim
  | some s =>
    rw [q] at h
    cases s with
    | emp => exact h.elim
    | val d => exact h.elim
    | exc k fs => exact h.elim
    | own xs =>
      obtain ⟨c', o', f'⟩ := f.frz q
      exact ⟨c', S, _, o', f', h⟩
theorem s_if {ct : CE} {ba bb : CB} {sa sb : List Stmt} (hc : PT X e (LC g su W (evE G (Tk.call G n) ct))) (ha : PSs X sa (LSt g b su W (evB G (Tk.call G n) ba))) (hb : PSs X sb (LSt g b su W (evB G (Tk.call G n) bb))) :
    PS X (.If e sa sb pos) (LSt g b su W (evS G (Tk.call G n) (.ite ct ba bb))) := by
  refine PS.imp (ps_if hc ha hb) fun Dn σ H h => ?_
  obtain ⟨c, S, ρ, o, f, h⟩ := h
  rw [evS] at h
  refine ⟨c, S, ρ, o, f.su, f.s, f.e, PostS.bB f h (fun d S1 H1 c1 t _ ht f1 h1 => ?_) fun d S1 _ h1 z => ?_⟩
  · unfold sIte at h1
    rw [ht] at h1
    cases t with
    | true => rw [if_pos rfl]; exact ⟨c1, S1, ρ, o, f1, h1⟩
    | false => rw [if_neg Bool.false_ne_true]; exact ⟨c1, S1, ρ, o, f1, h1⟩
  · unfold sIte at h1
    rw [z] at h1; exact h1
/-- a, b = a tuple -/
theorem setAll_set {is : List Nat} : ∀ {ds : List D} {ρ ρ' : Ev}, setAll ρ is ds = some ρ' → bindT ρ (.tp is) (.tup ds) = some ρ' := fun h => h
theorem s_setT {sc : Scope} (C : Cok G g n cm su X W) (K : Sok sc X) (hcm : cm = true) {ce : CE} {is : List Nat} (ht : ckT X.N sc (.tp is) t = true) (hs : swapsWithSole [t] e pos.line X.env = pure false) (hw : swappedStores [t] e X.env = pure none) (h1 : (assignEach [t] X.env).map (·.2) = [assign t X.env])
    (he : PE X e (LT g su W (evE G (Tk.call G n) ce))) : PS X (.Assign [t] e pos) (LSt g b su W (evS G (Tk.call G n) (.setT is ce))) := by
  refine PS.imp (ps_asg he (g_tg C.nd K.loc (C.cm hcm).1 C.K ht) hs hw h1) fun Dn σ H h => ?_
  obtain ⟨c, S, ρ, o, f, h⟩ := h
  rw [evS] at h
  refine LT.mk f.at (PostS.bE f h fun d S1 v H1 c1 _ q f1 h1 => ?_)
  cases d with
  | tup ds =>
    have h1 : PostS g b su W Dn (nextO S1 (setAll ρ is ds)) := h1
    cases z : setAll ρ is ds with
    | none => rw [z] at h1; exact h1.elim
    | some ρ' =>
      rw [z] at h1
      exact ⟨c1, S1, ρ, o, .tup ds, ρ', q.s, f1.e, q.r, z, fun σ' re _ => h1 c1 H1 o σ' ⟨f1.su, f1.bs, f1.s, re, f1.y⟩⟩
  | new ds =>
    have h1 : PostS g b su W Dn (nextO S1 (setAll ρ is ds)) := h1
    cases z : setAll ρ is ds with
    | none => rw [z] at h1; exact h1.elim
    | some ρ' =>
      rw [z] at h1
      exact ⟨c1, S1, ρ, o, .new ds, ρ', q.s, f1.e, q.r, z, fun σ' re _ => h1 c1 H1 o σ' ⟨f1.su, f1.bs, f1.s, re, f1.y⟩⟩
  | lst ds =>
    have h1 : PostS g b su W Dn (nextO S1 (setAll ρ is ds)) := h1
    cases z : setAll ρ is ds with
    | none => rw [z] at h1; exact h1.elim
    | some ρ' =>
      rw [z] at h1
      exact ⟨c1, S1, ρ, o, .lst ds, ρ', q.s, f1.e, q.r, z, fun σ' re _ => h1 c1 H1 o σ' ⟨f1.su, f1.bs, f1.s, re, f1.y⟩⟩
  | _ => exact h1.elim

/-! ### while -/
theorem s_while {sc : Scope} (K : Sok sc X) {ct : CE} {cb : CB} {body : List Stmt} (hc : PT X e (LC g su W (evE G (Tk.call G n) ct))) (hb : PSs X body (LSt g b su W (evB G (Tk.call G n) cb))) :
    PS X (.While e body [] pos) (LSt g b su W (evS G (Tk.call G n) (.while_ ct cb))) := by
  refine PS.imp (ps_while K.po hc hb) fun Dn σ H h => ?_
  obtain ⟨c, S, ρ, o, f, h⟩ := h
  rw [evS] at h
  have hx : ∃ m, PostS g b su W Dn (wh (tstC false (evE G (Tk.call G n) ct)) (evB G (Tk.call G n) cb) m ρ S) := by
    unfold whC at h
    by_cases z : ∃ m, wh (tstC false (evE G (Tk.call G n) ct)) (evB G (Tk.call G n) cb) m ρ S ≠ .bad
    · rw [dif_pos z] at h; exact ⟨_, h⟩
    · rw [dif_neg z] at h; exact h.elim
  obtain ⟨m0, h0⟩ := hx
  refine ⟨fun m σ H => ∃ c S ρ o, Fr g b su c H S o σ ρ ∧ PostS g b su W Dn (wh (tstC false (evE G (Tk.call G n) ct)) (evB G (Tk.call G n) cb) m ρ S), ⟨m0, c, S, ρ, o, f, h0⟩, ?_⟩
  clear h h0 f
  intro m σ H hw
  obtain ⟨c, S, ρ, o, f, h⟩ := hw
  cases m with
  | zero => exact h.elim
  | succ m =>
    unfold wh at h
    refine ⟨c, S, ρ, o, f.su, f.s, f.e, ?_⟩
    show PostB g c H _ _ (tstC false (evE G (Tk.call G n) ct) ρ S)
    cases q : tstC false (evE G (Tk.call G n) ct) ρ S with
    | bad => rw [q] at h; exact h.elim
    | err k fs S1 =>
      rw [q] at h
      exact fun H1 c1 dx e s x => h c1 H1 o σ dx (f.go e s) x
    | ok t S1 =>
      rw [q] at h
      intro H1 c1 e s
      have f1 := f.go e s
      cases t with
      | false =>
        rw [if_neg Bool.false_ne_true]
        exact h c1 H1 o σ f1
      | true =>
        rw [if_pos rfl]
        refine ⟨fun σ' H' => ∃ m', m' < m + 1 ∧ ∃ c S ρ o, Fr g b su c H' S o σ' ρ ∧ PostS g b su W Dn (wh (tstC false (evE G (Tk.call G n) ct)) (evB G (Tk.call G n) cb) m' ρ S), fun _ _ z => z, c1, S1, ρ, o, f1, ?_⟩
        dsimp only at h
        cases q2 : evB G (Tk.call G n) cb ρ S1 with
        | next ρ2 S2 => rw [q2] at h; exact fun c2 H2 o2 σ2 f2 => ⟨m, Nat.lt_succ_self _, c2, S2, ρ2, o2, f2, h⟩
        | cont ρ2 S2 => rw [q2] at h; exact fun c2 H2 o2 σ2 f2 => ⟨m, Nat.lt_succ_self _, c2, S2, ρ2, o2, f2, h⟩
        | brk ρ2 S2 => rw [q2] at h; exact h
        | ret d S2 => rw [q2] at h; exact h
        | err k fs ρ2 S2 => rw [q2] at h; exact h
        | bad => rw [q2] at h; exact h
end
end Tk
/-! Core 22: for. -/
namespace Tk
open PySem PySem.Spec PyProof.Rows L2

theorem PSs.sem {X : Cx} {st : List Stmt} {t' : TS} (h : ∀ Dn σ H, t' Dn σ H → ∃ t, PSs X st t ∧ t Dn σ H) : PSs X st t' := ⟨fun pins s σ H Dn I q => let ⟨_, p, q'⟩ := h Dn σ H q; p.run pins s σ H Dn I q'⟩
section
variable {G : Prog} {g : Wd} {n : Nat} {cm : Bool} {su : Su} {X : Cx} {W : WX} {b : Bs} {c c' c1 c2 : Ct} {H H' H1 H2 : Hp} {S S' S1 S2 : Sto} {ρ ρ' ρ2 : Ev} {o o' o2 : List (Nat × Addr)} {σ σ' σ2 : L2.St} {Q : VK} {e t : Expr} {pos p1 p2 : Pos} {x : Str} {Dn : Ends} {st : Stmt} {sts : List Stmt}
/-- the state as a point -/
def Fr.pt (_ : Fr g b su c H S o σ ρ) : Bs := ⟨c, H, o.map (·.2)⟩
theorem Fr.own_y (f : Fr g b su c H S o σ ρ) {a : Addr} (h : a ∈ o.map (·.2)) : b.H a = none ∨ a ∈ b.Y := by
  obtain ⟨p, h1, rfl⟩ := List.mem_map.mp h
  exact f.y p.1 p.2 h1
theorem Fr.self (f : Fr g b su c H S o σ ρ) : Fr g f.pt su c H S o σ ρ := ⟨f.su, ⟨List.prefix_refl _, fun _ h _ => h, fun _ h => .inl h, rfl, fun _ _ h1 h2 _ => ⟨h1, h2⟩, fun _ h => h, fun a h => (f.s.x a h).2⟩, f.s, f.e, fun i a h => .inr (List.mem_map.mpr ⟨(i, a), h, rfl⟩)⟩
theorem B.pt (f : Fr g b su c H S o σ ρ) (q : B f.pt c2 H2) : B b c2 H2 where
  pre := f.bs.pre.trans q.pre
  x := fun a h1 h2 => q.x a (f.bs.x a h1 h2) fun z => (f.own_y z).elim (f.bs.bx a h1) h2
  xn := fun a h => (q.xn a h).elim (f.bs.xn a) fun z => .inr (f.bs.free z)
  su := q.su.trans f.bs.su
  keep := fun a ob h1 h2 h3 => by
    obtain ⟨h4, h5⟩ := f.bs.keep a ob h1 h2 h3
    exact q.keep a ob h4 h5 fun z => (f.own_y z).elim (fun w => by rw [w] at h1; cases h1) h3
  dom := fun a h => q.dom a (f.bs.dom a h)
  bx := f.bs.bx
theorem Fr.up (f : Fr g b su c H S o σ ρ) (q : Fr g f.pt su c2 H2 S2 o2 σ2 ρ2) : Fr g b su c2 H2 S2 o2 σ2 ρ2 :=
  ⟨q.su, q.bs.pt f, q.s, q.e, fun i a h => (q.y i a h).elim (fun z => .inl (f.bs.free z)) f.own_y⟩
theorem PostS.pt (f : Fr g b su c H S o σ ρ) {r : O} (h : PostS g b su W Dn r) : PostS g f.pt su W Dn r := by
  cases r with
  | next ρ1 S1 => exact fun c2 H2 o2 σ2 q => h c2 H2 o2 σ2 (f.up q)
  | brk ρ1 S1 => exact fun c2 H2 o2 σ2 q => h c2 H2 o2 σ2 (f.up q)
  | cont ρ1 S1 => exact fun c2 H2 o2 σ2 q => h c2 H2 o2 σ2 (f.up q)
  | ret d S1 =>
    intro c2 H2 v hs hb hr hv hn
    refine h c2 H2 v hs (hb.pt f) hr hv ?_
    cases d with
    | new xs =>
      obtain ⟨a, vs, h1, h2, h3⟩ := hn
      exact ⟨a, vs, h1, f.bs.free h2, h3⟩
    | own i xs =>
      obtain ⟨a, h1, h2, h3⟩ := hn
      exact ⟨a, h1, h2.elim (fun z => .inl (f.bs.free z)) f.own_y, h3⟩
    | _ => trivial
  | err k fs ρ1 S1 => exact fun c2 H2 o2 σ2 dx q => h c2 H2 o2 σ2 dx (f.up q)
  | bad => exact h
theorem B.cy (f : Fr g b su c H S o σ ρ) (q : B f.pt c2 H2) : Cy c H c2 H2 where
  fx := fun a ob ⟨h1, h2, h3⟩ => by
    obtain ⟨h4, h5⟩ := q.keep a ob h1 h2 fun z => by
      obtain ⟨p, z1, rfl⟩ := List.mem_map.mp z
      exact h3 (f.e.sub p.1 p.2 z1)
    refine ⟨h4, h5, fun z => (q.xn a z).elim h3 fun w => ?_⟩
    rw [show H a = none from w] at h1; cases h1
  loc := fun k a h => by
    obtain ⟨t, ht⟩ := q.pre
    have ht : c.m ++ t = c2.m := ht
    rw [← ht, List.getElem?_append_left (List.getElem?_eq_some_iff.mp h).1]; exact h
/-- the body, held to any point -/
def LSb (G : Prog) (g : Wd) (su : Su) (W : WX) (n : Nat) (cb : CB) : TS := fun Dn σ H => ∃ b, LSt g b su W (evB G (Tk.call G n) cb) Dn σ H
/-- one turn's outcome -/
theorem turn_post {b : Bs} {r : O} {k : Ev → Sto → O} {N : L2.St → Hp → Prop} (h : PostS g b su W Dn (match r with
      | .next ρ1 S1 => k ρ1 S1
      | .cont ρ1 S1 => k ρ1 S1
      | .brk ρ1 S1 => .next ρ1 S1
      | r => r)) (hN : ∀ ρ1 S1, PostS g b su W Dn (k ρ1 S1) → ∀ c H o σ, Fr g b su c H S1 o σ ρ1 → N σ H) :
    PostS g b su W { Dn with nx := N, ct := N, bk := Dn.nx } r := by
  cases r with
  | next ρ1 S1 => exact hN ρ1 S1 h
  | cont ρ1 S1 => exact hN ρ1 S1 h
  | brk ρ1 S1 => exact h
  | ret d S1 => exact h
  | err k fs ρ1 S1 => exact h
  | bad => exact h.elim
theorem s_for {sc : Scope} (C : Cok G g n true su X W) (K : Sok sc X) {tg : Tg} {it : CI} {cb : CB} {iter : Expr} {body : List Stmt} (ht : ckT X.N sc tg t = true) (hs : noSet iter = true) (hi : PI X t iter (LI g X.K su W (evI G (Tk.call G n) it))) (hb : ∀ b, PSs X body (LSt g b su W (evB G (Tk.call G n) cb))) :
    PS X (.For t iter body [] pos) (LSt g b su W (evS G (Tk.call G n) (.for_ tg it cb))) := by
  have hbb : PSs X body (LSb G g su W n cb) := PSs.sem fun Dn σ H ⟨b, h⟩ => ⟨_, hb b, h⟩
  refine PS.imp (ps_for K.po (C.cm rfl).1 hi (g_tg C.nd K.loc (C.cm rfl).1 C.K ht) hbb (fun x => by cases iter <;> first | rfl | cases hs)) fun Dn σ H h => ?_
  obtain ⟨c, S, ρ, o, f, h⟩ := h
  rw [evS] at h
  refine ⟨c, S, ρ, o, f.su, f.s, f.e, ?_⟩
  cases q1 : evI G (Tk.call G n) it ρ S with
  | err k fs S1 => rw [q1] at h; exact fun H1 c1 dx e s x => h c1 H1 o σ dx (f.go e s) x
  | bad => rw [q1] at h; exact h.elim
  | ok t1 S1 =>
    rw [q1] at h
    have h : PostS g b su W Dn (sFor tg (evB G (Tk.call G n) cb) ρ t1 S1) := h
    intro H1 c1 J e s hit
    have f1 := f.go e s
    have h := PostS.pt f1 h
    cases t1 with
    | ow xs => exact h.elim
    | fix xs =>
      have h : PostS g f1.pt su W Dn (forF (forStep tg (evB G (Tk.call G n) cb)) xs ρ S1) := h
      have hit : ItOk g (fun c2 H2 => Cy c1 H1 c2 H2) xs J := hit
      refine ⟨fun i m σ2 H2 => ∃ c2 S2 ρ2 o2, m + i = xs.length ∧ Fr g f1.pt su c2 H2 S2 o2 σ2 ρ2 ∧ PostS g f1.pt su W Dn (forF (forStep tg (evB G (Tk.call G n) cb)) (xs.drop i) ρ2 S2), ⟨xs.length, c1, S1, ρ, o, rfl, f1.self, h⟩, ?_⟩
      intro i m σ2 H2 ⟨c2, S2, ρ2, o2, hm, f2, h2⟩
      obtain ⟨k1, k2⟩ := hit c2 H2 S2 (f2.bs.cy f1) f2.s i
      by_cases hl : xs.length ≤ i
      · rw [List.drop_eq_nil_of_le hl] at h2
        exact .inl ⟨k1 hl, h2 c2 H2 o2 σ2 (f1.up f2 |> fun _ => f2)⟩
      · have hlt : i < xs.length := Nat.lt_of_not_le hl
        have hxi : xs[i]? = some xs[i] := List.getElem?_eq_getElem hlt
        obtain ⟨kg, ky⟩ := k2 _ hxi
        rw [List.drop_eq_getElem_cons hlt] at h2
        refine .inr ⟨kg, fun σ' H' => ∃ m', m' < m ∧ ∃ c2 S2 ρ2 o2, m' + (i + 1) = xs.length ∧ Fr g f1.pt su c2 H' S2 o2 σ' ρ2 ∧ PostS g f1.pt su W Dn (forF (forStep tg (evB G (Tk.call G n) cb)) (xs.drop (i + 1)) ρ2 S2), fun _ _ z => z, fun x H3 hy => ?_⟩
        obtain ⟨e3, r3, hx⟩ := ky x H3 hy
        generalize xs[i] = d at hx h2
        have f3 := f2.go e3 r3
        unfold forF at h2
        cases qb : bindT ρ2 tg d with
        | none =>
          have z : forStep tg (evB G (Tk.call G n) cb) d ρ2 S2 = .bad := by unfold forStep; rw [qb]; rfl
          rw [z] at h2; exact h2.elim
        | some ρ' =>
          have z : forStep tg (evB G (Tk.call G n) cb) d ρ2 S2 = evB G (Tk.call G n) cb ρ' S2 := by unfold forStep; rw [qb]; rfl
          rw [z] at h2
          refine ⟨c2, S2, ρ2, o2, d, ρ', r3, f3.e, (rep_T hx).1, qb, fun σ' re _ => ⟨f1.pt, c2, S2, ρ', o2, ⟨f3.su, f3.bs, f3.s, re, f3.y⟩, ?_⟩⟩
          exact turn_post h2 fun ρ1 S3 hp c4 H4 o4 σ4 f4 => ⟨m - 1, by omega, c4, S3, ρ1, o4, by omega, f4, hp⟩
    | dyn k =>
      obtain ⟨a, ha, rfl⟩ := hit
      have h : PostS g f1.pt su W Dn (match S1[k]? with
        | some (.lst xs) => forD (forStep tg (evB G (Tk.call G n) cb)) k xs.length 0 ρ S1
        | _ => .bad) := h
      have h0 : ∃ m, PostS g f1.pt su W Dn (forD (forStep tg (evB G (Tk.call G n) cb)) k m 0 ρ S1) := by
        cases q : S1[k]? with
        | none => rw [q] at h; exact h.elim
        | some ce =>
          rw [q] at h
          cases ce with
          | lst xs => exact ⟨_, h⟩
          | ins _ _ => exact h.elim
      obtain ⟨m0, h0⟩ := h0
      refine ⟨fun i m σ2 H2 => ∃ c2 S2 ρ2 o2, Fr g f1.pt su c2 H2 S2 o2 σ2 ρ2 ∧ PostS g f1.pt su W Dn (forD (forStep tg (evB G (Tk.call G n) cb)) k m i ρ2 S2), ⟨m0, c1, S1, ρ, o, f1.self, h0⟩, ?_⟩
      intro i m σ2 H2 ⟨c2, S2, ρ2, o2, f2, h2⟩
      have hk : c2.m[k]? = some a := (f2.bs.cy f1).loc k a ha
      obtain ⟨ce, h3, h4⟩ := f2.s.at hk
      cases ce with
      | ins q fs =>
        cases m with
        | zero => unfold forD at h2; rw [h3] at h2; exact h2.elim
        | succ m => unfold forD at h2; rw [h3] at h2; exact h2.elim
      | lst ys =>
        obtain ⟨vs, h5, h6⟩ := h4
        have hS : SqL X.K H2 a vs := .inl (.inl h5)
        have stop : ys.length ≤ i → PostS g f1.pt su W Dn (.next ρ2 S2) → ((Itl X.K a).stop i H2 ∧ Dn.nx σ2 H2) := fun hl hp => ⟨⟨vs, hS, by rw [h6.length]; exact hl⟩, hp c2 H2 o2 σ2 f2⟩
        cases m with
        | zero =>
          unfold forD at h2
          rw [h3] at h2
          have h2 : PostS g f1.pt su W Dn (if ys.length ≤ i then .next ρ2 S2 else .bad) := h2
          by_cases hl : ys.length ≤ i
          · rw [if_pos hl] at h2; exact .inl (stop hl h2)
          · rw [if_neg hl] at h2; exact h2.elim
        | succ m =>
          unfold forD at h2
          rw [h3] at h2
          dsimp only at h2
          cases hy : ys[i]? with
          | none =>
            rw [hy] at h2
            exact .inl (stop (List.getElem?_eq_none_iff.mp hy) h2)
          | some d =>
            rw [hy] at h2
            dsimp only at h2
            obtain ⟨v, h7, h8⟩ := h6.get hy
            refine .inr ⟨⟨vs, v, hS, h7⟩, fun σ' H' => ∃ m', m' < m + 1 ∧ ∃ c2 S2 ρ2 o2, Fr g f1.pt su c2 H' S2 o2 σ' ρ2 ∧ PostS g f1.pt su W Dn (forD (forStep tg (evB G (Tk.call G n) cb)) k m' (i + 1) ρ2 S2), fun _ _ z => z, fun x H3 hy => ?_⟩
            obtain ⟨rfl, hy⟩ := hy
            have := hy vs hS
            rw [h7] at this
            cases this
            cases qb : bindT ρ2 tg d with
            | none =>
              have z : forStep tg (evB G (Tk.call G n) cb) d ρ2 S2 = .bad := by unfold forStep; rw [qb]; rfl
              rw [z] at h2; exact h2.elim
            | some ρ' =>
              have z : forStep tg (evB G (Tk.call G n) cb) d ρ2 S2 = evB G (Tk.call G n) cb ρ' S2 := by unfold forStep; rw [qb]; rfl
              rw [z] at h2
              refine ⟨c2, S2, ρ2, o2, d, ρ', f2.s, f2.e, (rep_T h8).1, qb, fun σ' re _ => ⟨f1.pt, c2, S2, ρ', o2, ⟨f2.su, f2.bs, f2.s, re, f2.y⟩, ?_⟩⟩
              exact turn_post h2 fun ρ1 S3 hp c4 H4 o4 σ4 f4 => ⟨m, Nat.lt_succ_self _, c4, S3, ρ1, o4, f4, hp⟩
end
end Tk
/-! Core 23: changes: fields, items, append. -/
namespace Tk
open PySem PySem.Spec PyProof.Rows L2

section
variable {G : Prog} {g : Wd} {n : Nat} {cm : Bool} {su : Su} {X : Cx} {W : WX} {b : Bs} {c c' c1 c2 : Ct} {H H' H1 H2 : Hp} {S S' S1 S2 : Sto} {ρ ρ' ρ2 : Ev} {o o' o2 : List (Nat × Addr)} {σ σ' σ2 : L2.St} {Q : VK} {e t a : Expr} {pos p1 p2 apos : Pos} {x : Str} {Dn : Ends} {st : Stmt} {sts : List Stmt} {A : Addr}
theorem cy_cell {ob : HO} (hA : A ∈ c.m) : Cy c H c (L2.upd H A ob) := ⟨fun p u ⟨h1, h2, h3⟩ => ⟨by rw [upd_ne (fun z => h2 (by rw [z]; exact hA))]; exact h1, h2, h3⟩, fun _ _ z => z⟩
theorem upd_some {ob : HO} {p : Addr} (h : H p ≠ none) : L2.upd H A ob p ≠ none := by
  by_cases q : p = A
  · rw [q, upd_same]; exact fun z => nomatch z
  · rw [upd_ne q]; exact h
/-- a cell changes -/
theorem Fr.cell (f : Fr g b su c H S o σ ρ) {l : Nat} {ob : HO} {ce : Cell} (hA : c.m[l]? = some A) (hok : CellOk g c (L2.upd H A ob) A ce) : Fr g b su c (L2.upd H A ob) (S.set l ce) o σ ρ := by
  have hm : A ∈ c.m := List.mem_of_getElem? hA
  have cy := cy_cell (H := H) (ob := ob) hm
  refine ⟨f.su, ⟨f.bs.pre, f.bs.x, f.bs.xn, f.bs.su, fun p u h1 h2 h3 => ?_, fun p h => upd_some (f.bs.dom p h), f.bs.bx⟩, ⟨f.s.nd, by rw [List.length_set]; exact f.s.len, fun p h => ⟨(f.s.x p h).1, upd_some (f.s.x p h).2⟩, fun j ce' p h1 h2 => ?_⟩, ⟨f.e.len, fun i d h => ?_, fun i xs h => ?_, fun i k fs h => let ⟨p, h1, h2⟩ := f.e.exc i k fs h; ⟨p, h1, h2.cy cy rfl⟩, f.e.sub, f.e.uni⟩, f.y⟩
  · obtain ⟨h4, h5⟩ := f.bs.keep p u h1 h2 h3
    exact ⟨by rw [upd_ne (fun z => h5 (by rw [z]; exact hm))]; exact h4, h5⟩
  · rw [List.getElem?_set] at h1
    by_cases q : l = j
    · subst q
      rw [hA] at h2
      cases h2
      rw [if_pos rfl] at h1
      by_cases hl : l < S.length
      · rw [if_pos hl] at h1; cases h1; exact hok
      · rw [if_neg hl] at h1; cases h1
    · rw [if_neg q] at h1
      refine (f.s.ok j ce' p h1 h2).cy cy fun u z => ?_
      rw [upd_ne (fun w => q ?_)]
      · exact z
      · subst w
        have l1 := (List.getElem?_eq_some_iff.mp hA)
        have l2 := (List.getElem?_eq_some_iff.mp h2)
        obtain ⟨l1, e1⟩ := l1
        obtain ⟨l2, e2⟩ := l2
        have nd := List.pairwise_iff_getElem.mp f.s.nd
        have h12 := e1.trans e2.symm
        rcases Nat.lt_trichotomy l j with w | w | w
        · exact absurd h12 (nd l j l1 l2 w)
        · exact w
        · exact absurd h12.symm (nd j l l2 l1 w)
  · obtain ⟨v, h1, h2⟩ := f.e.val i d h
    exact ⟨v, h1, Rep.cy cy _ _ h2⟩
  · obtain ⟨p, vs, h1, h2, h3, h4⟩ := f.e.own i xs h
    exact ⟨p, vs, h1, h2, by rw [upd_ne (fun z => (f.s.x p (f.e.sub i p h2)).1 (by rw [z]; exact hm))]; exact h3, Reps.cy cy _ _ h4⟩
/-- an own list changes -/
theorem Fr.ownSet (f : Fr g b su c H S o σ ρ) {i : Nat} {xs ys : List D} {ws : List V} (hi : ρ[i]? = some (.own xs)) (hs : σ[i]? = some (some (.ref A))) (ho : (i, A) ∈ o) (hw : Reps g c H ys ws) : Fr g b su c (L2.upd H A (.lst ws)) S o σ (ρ.set i (.own ys)) := by
  have hx := f.e.sub i A ho
  have cy := cy_out (H := H) (ob := .lst ws) hx
  refine ⟨f.su, ⟨f.bs.pre, f.bs.x, f.bs.xn, f.bs.su, fun p u h1 h2 h3 => ?_, fun p h => upd_some (f.bs.dom p h), f.bs.bx⟩, f.s.out hx, ⟨by rw [List.length_set]; exact f.e.len, fun j d h => ?_, fun j zs h => ?_, fun j k fs h => ?_, f.e.sub, f.e.uni⟩, f.y⟩
  · obtain ⟨h4, h5⟩ := f.bs.keep p u h1 h2 h3
    refine ⟨?_, h5⟩
    rw [upd_ne fun z => ?_]
    · exact h4
    · subst z
      rcases f.y i p ho with z | z
      · rw [z] at h1; cases h1
      · exact h3 z
  · rw [List.getElem?_set] at h
    by_cases q : i = j
    · subst q
      rw [if_pos rfl] at h
      by_cases hl : i < ρ.length
      · rw [if_pos hl] at h; cases h
      · rw [if_neg hl] at h; cases h
    · rw [if_neg q] at h
      obtain ⟨v, h1, h2⟩ := f.e.val j d h
      exact ⟨v, h1, Rep.cy cy _ _ h2⟩
  · rw [List.getElem?_set] at h
    by_cases q : i = j
    · subst q
      rw [if_pos rfl] at h
      by_cases hl : i < ρ.length
      · rw [if_pos hl] at h
        cases h
        exact ⟨A, ws, hs, ho, upd_same, Reps.cy cy _ _ hw⟩
      · rw [if_neg hl] at h; cases h
    · rw [if_neg q] at h
      obtain ⟨p, vs, h1, h2, h3, h4⟩ := f.e.own j zs h
      exact ⟨p, vs, h1, h2, by rw [upd_ne (fun z => q (f.e.uni i j A ho (by rw [← z]; exact h2)))]; exact h3, Reps.cy cy _ _ h4⟩

  · rw [List.getElem?_set] at h
    by_cases q : i = j
    · subst q
      rw [if_pos rfl] at h
      by_cases hl : i < ρ.length
      · rw [if_pos hl] at h; cases h
      · rw [if_neg hl] at h; cases h
    · rw [if_neg q] at h
      obtain ⟨p, h1, h2⟩ := f.e.exc j k fs h
      exact ⟨p, h1, h2.cy cy rfl⟩

/-! ### append -/
/-- a cell's list changed -/
theorem app_cell (f : Fr g b su c H S o σ ρ) {l : Nat} {k : List D → Option (List D)} (hm : c.m[l]? = some A) (h : PostS g b su W Dn (storD ρ S k (.loc l))) :
    ∃ xs vs, H A = some (.lst vs) ∧ Reps g c H xs vs ∧ ∃ ys, k xs = some ys ∧ ∀ ws, Reps g c H ys ws → Dn.nx σ (L2.upd H A (.lst ws)) := by
  obtain ⟨ce, h3, h4⟩ := f.s.at hm
  have h : PostS g b su W Dn (match S[l]? with
    | some (.lst xs) => stL ρ S l (k xs)
    | _ => .bad) := h
  rw [h3] at h
  cases ce with
  | ins _ _ => exact h.elim
  | lst xs =>
    obtain ⟨vs, h5, h6⟩ := h4
    refine ⟨xs, vs, h5, h6, ?_⟩
    have h : PostS g b su W Dn (stL ρ S l (k xs)) := h
    cases q : k xs with
    | none => rw [q] at h; exact h.elim
    | some ys =>
      rw [q] at h
      refine ⟨ys, rfl, fun ws hw => h c _ o σ (f.cell hm ⟨ws, upd_same, Reps.cy (cy_cell (List.mem_of_getElem? hm)) _ _ hw⟩)⟩
theorem own_at (f : Fr g b su c H S o σ ρ) {i : Nat} {k : List D → Option (List D)} (h : PostS g b su W Dn (stOw ρ S i k ρ[i]?)) :
    ∃ A xs vs, σ[i]? = some (some (.ref A)) ∧ H A = some (.lst vs) ∧ A ∉ c.m ∧ Reps g c H xs vs ∧ ∃ ys, k xs = some ys ∧ ∀ ws, Reps g c H ys ws → Dn.nx σ (L2.upd H A (.lst ws)) := by
  cases q : ρ[i]? with
  | none => rw [q] at h; exact h.elim
  | some s =>
    rw [q] at h
    cases s with
    | emp => exact h.elim
    | val d => exact h.elim
    | exc k fs => exact h.elim
    | own xs =>
      obtain ⟨A, vs, h1, h2, h3, h4⟩ := f.e.own i xs q
      have h : PostS g b su W Dn (stO ρ S i (k xs)) := h
      refine ⟨A, xs, vs, h1, h3, (f.s.x A (f.e.sub i A h2)).1, h4, ?_⟩
      cases z : k xs with
      | none => rw [z] at h; exact h.elim
      | some ys =>
        rw [z] at h
        exact ⟨ys, rfl, fun ws hw => h c _ o σ (f.ownSet q h1 h2 hw)⟩
theorem appD_some {d : D} {xs ys : List D} (h : appD d xs = some ys) : xs.length < LIM ∧ ys = xs ++ [d] := by
  unfold appD at h
  by_cases q : xs.length < LIM
  · rw [if_pos q] at h; exact ⟨q, (Option.some.inj h).symm⟩
  · rw [if_neg q] at h; cases h
theorem bm_app (ho : attrB a = true) (h2 : plainX e = true) (h4 : (apos.endLine == p2.line) = true) {to : TE} {t : TA} (ha : PE X a to) (he : PA X [e] t) :
    PS X (.Expr (.Call (.Attribute a "append" apos) [e] [] p2) pos) (tDrop (tBM X.K "list" rAppend to t)) :=
  ps_expr (pe_bm PySem.F.plainAttrs_list PySem.F.slot_list_append PySem.F.type_list_append mt_append ha he (attr_base ho) (by rw [star_cons h2]; rfl) h4 (star_cons h2) rfl) rfl
theorem s_app {co ce : CE} (ho : attrB a = true) (h2 : plainX e = true) (h4 : (apos.endLine == p2.line) = true) (ha : PE X a (LT g su W (evE G (Tk.call G n) co))) (he : PE X e (LT g su W (evE G (Tk.call G n) ce))) :
    PS X (.Expr (.Call (.Attribute a "append" apos) [e] [] p2) pos) (LSt g b su W (evS G (Tk.call G n) (.app co ce))) := by
  refine PS.imp (bm_app ho h2 h4 ha (pa_cons he pa_nil (star_cons h2))) fun Dn σ H h => ?_
  obtain ⟨c, S, ρ, o, f, h⟩ := h
  rw [evS] at h
  refine LT.mk f.at (PostS.bE f h fun d S1 v H1 c1 _ q f1 h1 => ?_)
  cases d with
  | loc l =>
    have h1 : PostS g b su W Dn (sAppC ρ (evE G (Tk.call G n) ce ρ) (.loc l) S1 S1[l]?) := h1
    have hv := q.r
    change Rep g c1 H1 _ v at hv; rw [Rep] at hv
    obtain ⟨p, z1, z2⟩ := hv
    obtain ⟨ce', z3, z4⟩ := q.s.at z2
    rw [z3] at h1
    cases ce' with
    | ins k fs => exact h1.elim
    | lst xs =>
      have h1 : PostS g b su W Dn ((evE G (Tk.call G n) ce ρ S1).b ρ (sApp2 ρ (.loc l))) := h1
      obtain ⟨vs, z5, _⟩ := z4
      rw [z1]
      refine ⟨.inl ⟨rfl, vs, .inl (.inl z5)⟩, LT.mk f1.at (PostS.bE f1 h1 fun y S2 w H2 c2 _ q2 f2 h2 => ?_)⟩
      unfold sApp2 at h2
      by_cases hy : still y = true
      · rw [if_pos hy] at h2
        obtain ⟨xs2, vs2, k3, k4, ys, k5, k6⟩ := app_cell f2 (q2.e.cy.loc l p z2) h2
        obtain ⟨k7, rfl⟩ := appD_some k5
        exact ⟨p, vs2, w, rfl, rfl, k3, by rw [k4.length]; exact Nat.lt_of_lt_of_le k7 (by decide), k6 _ (k4.append (Reps.cons (q2.r.rest hy) Reps.nil))⟩
      · rw [if_neg hy] at h2; exact h2.elim
  | _ => exact h1.elim
/-- the name's own list appended to -/
theorem s_appO (C : Cok G g n cm su X W) {ce : CE} {i : Nat} (hN : X.N[i]? = some x) (hv : visB X.env.scope x = true) (hm : nmOk x = true) (h2 : plainX e = true) (h4 : (apos.endLine == p2.line) = true) (he : PE X e (LT g su W (evE G (Tk.call G n) ce))) :
    PS X (.Expr (.Call (.Attribute (.Name x p1) "append" apos) [e] [] p2) pos) (LSt g b su W (evS G (Tk.call G n) (.appO i ce))) := by
  refine PS.imp (bm_app rfl h2 h4 (pe_var (i := i) hN (vis_of hv) (nm_of hm).1 (nm_of hm).2) (pa_cons he pa_nil (star_cons h2))) fun Dn σ H h => ?_
  obtain ⟨c, S, ρ, o, f, h⟩ := h
  rw [evS] at h
  cases q0 : ρ[i]? with
  | none => rw [q0] at h; exact h.elim
  | some s =>
    rw [q0] at h
    cases s with
    | emp => exact h.elim
    | val d => exact h.elim
    | exc k fs => exact h.elim
    | own xs =>
      obtain ⟨A, vs, h1, h3, h5, h6⟩ := f.e.own i xs q0
      have h : PostS g b su W Dn ((evE G (Tk.call G n) ce ρ S).b ρ (sAppO i ρ)) := h
      refine ⟨.ref A, h1, .inl ⟨rfl, vs, .inl (.inl h5)⟩, LT.mk f.at (PostS.bE f h fun y S2 w H2 c2 _ q2 f2 h7 => ?_)⟩
      unfold sAppO at h7
      by_cases hy : still y = true
      · rw [if_pos hy] at h7
        obtain ⟨A', xs2, vs2, k1, k2, k3, k4, ys, k5, k6⟩ := own_at f2 h7
        rw [h1] at k1
        cases k1
        obtain ⟨k7, rfl⟩ := appD_some k5
        exact ⟨A, vs2, w, rfl, rfl, k2, by rw [k4.length]; exact Nat.lt_of_lt_of_le k7 (by decide), k6 _ (k4.append (Reps.cons (q2.r.rest hy) Reps.nil))⟩
      · rw [if_neg hy] at h7; exact h7.elim

/-! ### items -/
theorem putD_some {d : D} {xs ys : List D} {i : Int} (h : putD i d xs = some ys) : ∃ j, ixN xs.length i = some j ∧ ys = xs.set j d := by
  unfold putD at h
  cases q : ixN xs.length i with
  | none => rw [q] at h; cases h
  | some j => rw [q] at h; exact ⟨j, rfl, (Option.some.inj h).symm⟩
theorem s_seti {co ck ce : CE} {k : Expr} (hx : ixX k = true) (hs : swapsWithSole [.Subscript a k p1] e pos.line X.env = pure false) (hw : swappedStores [.Subscript a k p1] e X.env = pure none)
    (ho : PE X a (LT g su W (evE G (Tk.call G n) co))) (hk : PE X k (LT g su W (evE G (Tk.call G n) ck))) (he : PE X e (LT g su W (evE G (Tk.call G n) ce))) :
    PS X (.Assign [.Subscript a k p1] e pos) (LSt g b su W (evS G (Tk.call G n) (.seti co ck ce))) := by
  refine PS.imp (ps_asg he (pg_sub ho hk set_list (fun v => by cases k <;> first | rfl | cases hx)) hs hw rfl) fun Dn σ H h => ?_
  obtain ⟨c, S, ρ, o, f, h⟩ := h
  rw [evS] at h
  refine LT.mk f.at (PostS.bE f h fun d S1 v H1 c1 _ q f1 h1 => ?_)
  have h1 : PostS g b su W Dn ((evE G (Tk.call G n) co ρ S1).b ρ (sItem2 ρ (evE G (Tk.call G n) ck ρ) d)) := h1
  refine LT.mk f1.at (PostS.bE f1 h1 fun d2 S2 v2 H2 c2 _ q2 f2 h2 => ?_)
  have h2 : PostS g b su W Dn ((evE G (Tk.call G n) ck ρ S2).b ρ (sItem3 ρ d d2)) := h2
  refine LT.mk f2.at (PostS.bE f2 h2 fun d3 S3 v3 H3 c3 _ q3 f3 h3 => ?_)
  unfold sItem3 at h3
  by_cases hy : still d = true
  · rw [if_pos hy] at h3
    cases d3 with
    | int i =>
      have h3 : PostS g b su W Dn (storD ρ S3 (putD i (fz d)) d2) := h3
      cases d2 with
      | loc l =>
        have hv := q2.r
        change Rep g c2 H2 _ v2 at hv; rw [Rep] at hv
        obtain ⟨p, z1, z2⟩ := hv
        obtain ⟨xs, vs, k3, k4, ys, k5, k6⟩ := app_cell f3 (q3.e.cy.loc l p z2) h3
        obtain ⟨j, k7, rfl⟩ := putD_some k5
        have hd : Rep g c3 H3 (fz d) v := Rep.cy q3.e.cy _ _ (Rep.cy q2.e.cy _ _ (q.r.rest hy))
        exact ⟨p, vs, i, j, z1, int_of q3.r, k3, by rw [k4.length]; exact k7, k6 _ (k4.set hd)⟩
      | _ => exact h3.elim
    | _ => exact h3.elim
  · rw [if_neg hy] at h3; exact h3.elim
theorem s_setiO (C : Cok G g n cm su X W) {ck ce : CE} {k : Expr} {i : Nat} (hx : ixX k = true) (hN : X.N[i]? = some x) (hv : visB X.env.scope x = true) (hm : nmOk x = true) (hs : swapsWithSole [.Subscript (.Name x p2) k p1] e pos.line X.env = pure false) (hw : swappedStores [.Subscript (.Name x p2) k p1] e X.env = pure none)
    (hk : PE X k (LT g su W (evE G (Tk.call G n) ck))) (he : PE X e (LT g su W (evE G (Tk.call G n) ce))) :
    PS X (.Assign [.Subscript (.Name x p2) k p1] e pos) (LSt g b su W (evS G (Tk.call G n) (.setiO i ck ce))) := by
  refine PS.imp (ps_asg he (pg_sub (pe_var (i := i) hN (vis_of hv) (nm_of hm).1 (nm_of hm).2) hk set_list (fun v => by cases k <;> first | rfl | cases hx)) hs hw rfl) fun Dn σ H h => ?_
  obtain ⟨c, S, ρ, o, f, h⟩ := h
  rw [evS] at h
  cases q0 : ρ[i]? with
  | none => rw [q0] at h; exact h.elim
  | some s =>
    rw [q0] at h
    cases s with
    | emp => exact h.elim
    | val d => exact h.elim
    | exc k fs => exact h.elim
    | own xs =>
      obtain ⟨A, vs, h1, h3, h5, h6⟩ := f.e.own i xs q0
      have h : PostS g b su W Dn ((evE G (Tk.call G n) ce ρ S).b ρ (sItemO i ρ (evE G (Tk.call G n) ck ρ))) := h
      refine LT.mk f.at (PostS.bE f h fun d S1 v H1 c1 _ q f1 h1' => ?_)
      have h1' : PostS g b su W Dn ((evE G (Tk.call G n) ck ρ S1).b ρ (sItemO2 i ρ d)) := h1'
      refine ⟨.ref A, h1, LT.mk f1.at (PostS.bE f1 h1' fun d3 S3 v3 H3 c3 _ q3 f3 h3 => ?_)⟩
      unfold sItemO2 at h3
      by_cases hy : still d = true
      · rw [if_pos hy] at h3
        cases d3 with
        | int j0 =>
          obtain ⟨A', xs2, vs2, k1, k2, k3, k4, ys, k5, k6⟩ := own_at f3 h3
          rw [h1] at k1
          cases k1
          obtain ⟨j, k7, rfl⟩ := putD_some k5
          have hd : Rep g c3 H3 (fz d) v := Rep.cy q3.e.cy _ _ (q.r.rest hy)
          exact ⟨A, vs2, j0, j, rfl, int_of q3.r, k2, by rw [k4.length]; exact k7, k6 _ (k4.set hd)⟩
        | _ => exact h3.elim
      · rw [if_neg hy] at h3; exact h3.elim

/-! ### fields -/
theorem putF_set : ∀ {ys : List Str} {vs : List V} {x : Str} {p : Nat} {y : V}, ys.idxOf? x = some p → p < vs.length → putF x y ((ys.take vs.length).zip vs) = (ys.take (vs.set p y).length).zip (vs.set p y)
  | [], vs, x, p, y, h, q => by simp at h
  | z :: ys, [], x, p, y, h, q => by simp at q
  | z :: ys, v :: vs, x, p, y, h, q => by
    rw [List.idxOf?_cons] at h
    rw [List.length_set, List.length_cons, List.take_succ_cons, List.zip_cons_cons]
    unfold putF
    by_cases e : (z == x) = true
    · rw [if_pos e] at h
      cases h
      rw [if_pos (by simpa using e)]
      rfl
    · rw [if_neg e] at h
      rw [if_neg (by simpa using e)]
      cases r : ys.idxOf? x with
      | none => rw [r] at h; simp at h
      | some j =>
        rw [r] at h
        have : p = j + 1 := by simpa using h.symm
        subst this
        have ih := putF_set (y := y) r (by simpa using q : j < vs.length)
        rw [List.length_set] at ih
        rw [ih]; rfl
theorem putF_new : ∀ {ys : List Str} {vs : List V} {x : Str} {y : V}, ys.idxOf? x = some vs.length → putF x y ((ys.take vs.length).zip vs) = (ys.take (vs ++ [y]).length).zip (vs ++ [y])
  | [], vs, x, y, h => by simp at h
  | z :: ys, [], x, y, h => by
    rw [List.idxOf?_cons] at h
    by_cases e : (z == x) = true
    · have : z = x := by simpa using e
      subst this
      simp [putF]
    · rw [if_neg e] at h
      cases r : ys.idxOf? x with
      | none => rw [r] at h; simp at h
      | some j => rw [r] at h; simp at h
  | z :: ys, v :: vs, x, y, h => by
    rw [List.idxOf?_cons] at h
    by_cases e : (z == x) = true
    · rw [if_pos e] at h; simp at h
    · rw [if_neg e] at h
      cases r : ys.idxOf? x with
      | none => rw [r] at h; simp at h
      | some j =>
        rw [r] at h
        have : vs.length = j := by simpa using h.symm
        subst this
        rw [List.length_cons, List.take_succ_cons, List.zip_cons_cons]
        unfold putF
        rw [if_neg (by simpa using e), putF_new r]
        simp
theorem s_seta (C : Cok G g n cm su X W) {co ce : CE} {f : Nat} (hx : G.attrs[f]? = some x) (hs : swapsWith e (some (.Attribute a x p1)) pos.line X.env = pure false) (ho : PE X a (LT g su W (evE G (Tk.call G n) co))) (he : PE X e (LT g su W (evE G (Tk.call G n) ce))) :
    PS X (.Assign [.Attribute a x p1] e pos) (LSt g b su W (evS G (Tk.call G n) (.seta co f ce))) := by
  refine PS.imp (ps_fld ho he hs) fun Dn σ H h => ?_
  obtain ⟨c, S, ρ, o, fr, h⟩ := h
  rw [evS] at h
  refine LT.mk fr.at (PostS.bE fr h fun d S1 v H1 c1 _ q f1 h1 => ?_)
  have h1 : PostS g b su W Dn ((evE G (Tk.call G n) co ρ S1).b ρ (sAttr2 G f ρ d)) := h1
  refine LT.mk f1.at (PostS.bE f1 h1 fun d2 S2 v2 H2 c2 _ q2 f2 h2 => ?_)
  unfold sAttr2 at h2
  by_cases hy : still d = true
  · rw [if_pos hy] at h2
    have hd : Rep g c2 H2 (fz d) v := Rep.cy q2.e.cy _ _ (q.r.rest hy)
    cases d2 with
    | loc l =>
      have hv := q2.r
      change Rep g c2 H2 _ v2 at hv; rw [Rep] at hv
      obtain ⟨p, z1, z2⟩ := hv
      obtain ⟨ce', z3, z4⟩ := f2.s.at z2
      unfold setaD at h2
      dsimp only at h2
      rw [z3] at h2
      cases ce' with
      | lst _ => exact h2.elim
      | ins k fs =>
        dsimp only at h2
        by_cases hk : G.cls? k = true
        · rw [if_pos hk] at h2
          cases hp : fpos G k f with
          | none => rw [hp] at h2; exact h2.elim
          | some j =>
            rw [hp] at h2
            dsimp only at h2
            obtain ⟨cc, x', e1, e2, e3⟩ := fpos_of hp
            rw [hx] at e2; cases e2
            obtain ⟨dx, vs, w1, w2, w3⟩ := z4
            have hc := C.st.cls k hk
            have hn := C.st.na k cc x hk e1 (idx_mem e3)
            rw [C.K] at hc hn
            have hcf := C.st.cf k cc e1
            have hsm := C.st.small k cc e1
            have hl := w3.length
            rw [hcf, ← hl] at w1
            have jl := (idx_lt e3).1
            rw [hcf] at w2
            refine ⟨p, g.ca k, dx, _, z1, w1, hc, hn, by rw [List.length_zip, List.length_take]; omega, ?_⟩
            by_cases hj : j < fs.length
            · rw [if_pos hj] at h2
              rw [putF_set e3 (by rw [hl]; exact hj)]
              refine h2 c2 _ o σ (f2.cell z2 ⟨dx, vs.set j v, ?_, by rw [List.length_set, hcf]; exact w2, Reps.cy (cy_cell (List.mem_of_getElem? z2)) _ _ (w3.set hd)⟩)
              rw [upd_same, hcf, List.length_set, List.length_set, hl]
            · rw [if_neg hj] at h2
              by_cases hj2 : j = fs.length
              · rw [if_pos hj2] at h2
                subst hj2
                rw [putF_new (by rw [hl]; exact e3)]
                refine h2 c2 _ o σ (f2.cell z2 ⟨dx, vs ++ [v], ?_, by rw [List.length_append, hcf]; exact jl, Reps.cy (cy_cell (List.mem_of_getElem? z2)) _ _ (w3.append (Reps.cons hd Reps.nil))⟩)
                rw [upd_same, hcf, List.length_append, List.length_append, hl]; rfl
              · rw [if_neg hj2] at h2; exact h2.elim
        · rw [if_neg hk] at h2; exact h2.elim
    | _ => exact h2.elim
  · rw [if_neg hy] at h2; exact h2.elim
end
end Tk
/-! Core 24: try. -/
namespace Tk
open PySem PySem.Spec PyProof.Rows L2

section
variable {G : Prog} {g : Wd} {n : Nat} {cm : Bool} {su : Su} {X : Cx} {W : WX} {b : Bs} {c c' c1 c2 : Ct} {H H' H1 H2 : Hp} {S S' S1 S2 : Sto} {ρ ρ' ρ2 : Ev} {o o' o2 : List (Nat × Addr)} {σ σ' σ2 : L2.St} {Q : VK} {e t a : Expr} {pos p1 p2 apos : Pos} {x : Str} {Dn : Ends} {st : Stmt} {sts : List Stmt} {A : Addr}
abbrev Ct.with (c : Ct) (su : Su) : Ct := ⟨c.m, c.x, su⟩
theorem cy_su {s : Su} : Cy c H (c.with s) H := ⟨fun _ _ h => h, fun _ _ h => h⟩
theorem RelS.suW (r : RelS g c H S) (s : Su) : RelS g (c.with s) H S := ⟨r.nd, r.len, r.x, fun k ce p h1 h2 => (r.ok k ce p h1 h2).cy cy_su fun _ z => z⟩
theorem hasX_at : ∀ {ρ : Ev} {i : Nat} {k : Nat} {fs : List D}, hasX ρ = false → ρ[i]? ≠ some (.exc k fs)
  | [], i, k, fs, h, q => by simp at q
  | s :: r, 0, k, fs, h, q => by
    simp at q
    subst q
    cases h
  | s :: r, i + 1, k, fs, h, q => by
    have h' : hasX r = false := by cases s <;> first | exact h | cases h
    exact hasX_at (i := i) h' (by simpa using q)
/-- no exception in a slot: what is held does not matter -/
theorem RelE.suW (re : RelE g c H o σ ρ) (s : Su) (h : hasX ρ = false) : RelE g (c.with s) H o σ ρ where
  len := re.len
  val := fun i d q => let ⟨v, h1, h2⟩ := re.val i d q; ⟨v, h1, Rep.cy cy_su _ _ h2⟩
  own := fun i xs q => let ⟨p, vs, h1, h2, h3, h4⟩ := re.own i xs q; ⟨p, vs, h1, h2, h3, Reps.cy cy_su _ _ h4⟩
  exc := fun i k fs q => absurd q (hasX_at h)
  sub := re.sub
  uni := re.uni
theorem RelE.drop (re : RelE g c H o σ ρ) (i : Nat) : RelE g c H o (σ.set i none) (ρ.set i .emp) where
  len := by rw [List.length_set, List.length_set]; exact re.len
  val := fun j d h => by
    rw [List.getElem?_set] at h ⊢
    by_cases q : i = j
    · subst q
      rw [if_pos rfl] at h
      by_cases hl : i < ρ.length
      · rw [if_pos hl] at h; cases h
      · rw [if_neg hl] at h; cases h
    · rw [if_neg q] at h ⊢
      exact re.val j d h
  own := fun j xs h => by
    rw [List.getElem?_set] at h ⊢
    by_cases q : i = j
    · subst q
      rw [if_pos rfl] at h
      by_cases hl : i < ρ.length
      · rw [if_pos hl] at h; cases h
      · rw [if_neg hl] at h; cases h
    · rw [if_neg q] at h ⊢
      exact re.own j xs h
  exc := fun j k fs h => by
    rw [List.getElem?_set] at h ⊢
    by_cases q : i = j
    · subst q
      rw [if_pos rfl] at h
      by_cases hl : i < ρ.length
      · rw [if_pos hl] at h; cases h
      · rw [if_neg hl] at h; cases h
    · rw [if_neg q] at h ⊢
      exact re.exc j k fs h
  sub := re.sub
  uni := re.uni
theorem Fr.noexc (f : Fr g b none c H S o σ ρ) {i k : Nat} {fs : List D} : ρ[i]? ≠ some (.exc k fs) := fun h => by
  obtain ⟨a, _, vs, d, h1, _⟩ := f.e.exc i k fs h
  rw [f.su] at h1; cases h1
/-- a suite begins -/
theorem Fr.enter0 (f : Fr g b none c H S o σ ρ) (q : Addr × Value × Option Addr) : Fr g ⟨c.with (some q), H, o.map (·.2)⟩ (some q) (c.with (some q)) H S o σ ρ :=
  ⟨rfl, ⟨List.prefix_refl _, fun _ h _ => h, fun _ h => .inl h, rfl, fun _ _ h1 h2 _ => ⟨h1, h2⟩, fun _ h => h, fun a h => (f.s.x a h).2⟩, f.s.suW _,
    ⟨f.e.len, fun i d z => let ⟨v, h1, h2⟩ := f.e.val i d z; ⟨v, h1, Rep.cy cy_su _ _ h2⟩, fun i xs z => let ⟨p, vs, h1, h2, h3, h4⟩ := f.e.own i xs z; ⟨p, vs, h1, h2, h3, Reps.cy cy_su _ _ h4⟩, fun i k fs z => absurd z f.noexc, f.e.sub, f.e.uni⟩,
    fun i a h => .inr (List.mem_map.mpr ⟨(i, a), h, rfl⟩)⟩
theorem Fr.enter (f : Fr g b none c H S o σ ρ) {k : Nat} {fs : List D} {dx : Option Addr} {a : Addr} (hx : XRep g c H k fs dx) (i : Nat) :
    Fr g ⟨c.with (some (a, .ref (g.ca k), dx)), H, o.map (·.2)⟩ (some (a, .ref (g.ca k), dx)) (c.with (some (a, .ref (g.ca k), dx))) H S o (σ.set i (some (.ref a))) (ρ.set i (.exc k fs)) := by
  have f0 := f.enter0 (a, .ref (g.ca k), dx)
  refine ⟨f0.su, f0.bs, f0.s, ⟨by rw [List.length_set, List.length_set]; exact f.e.len, fun j d h => ?_, fun j xs h => ?_, fun j k2 fs2 h => ?_, f0.e.sub, f0.e.uni⟩, f0.y⟩
  · rw [List.getElem?_set] at h ⊢
    by_cases q : i = j
    · subst q
      rw [if_pos rfl] at h
      by_cases hl : i < ρ.length
      · rw [if_pos hl] at h; cases h
      · rw [if_neg hl] at h; cases h
    · rw [if_neg q] at h ⊢
      exact f0.e.val j d h
  · rw [List.getElem?_set] at h ⊢
    by_cases q : i = j
    · subst q
      rw [if_pos rfl] at h
      by_cases hl : i < ρ.length
      · rw [if_pos hl] at h; cases h
      · rw [if_neg hl] at h; cases h
    · rw [if_neg q] at h ⊢
      exact f0.e.own j xs h
  · rw [List.getElem?_set] at h ⊢
    by_cases q : i = j
    · subst q
      rw [if_pos rfl] at h ⊢
      by_cases hl : i < ρ.length
      · rw [if_pos hl] at h
        cases h
        rw [f.e.len, if_pos hl]
        obtain ⟨vs, x1, x2, x3⟩ := hx
        exact ⟨a, rfl, vs, dx, rfl, x3.imp id fun ⟨dd, y1, y2⟩ => ⟨dd, y1, cy_su.fx _ _ y2⟩, x1, Reps.cy cy_su _ _ x2⟩
      · rw [if_neg hl] at h; cases h
    · rw [if_neg q] at h
      exact absurd h f.noexc
/-- a suite ends -/
theorem Fr.leave (f : Fr g b none c H S o σ ρ) {q : Addr × Value × Option Addr} (f2 : Fr g ⟨c.with (some q), H, o.map (·.2)⟩ (some q) c2 H2 S2 o2 σ2 ρ2) (h : hasX ρ2 = false) : Fr g b none (c2.with none) H2 S2 o2 σ2 ρ2 :=
  ⟨rfl, B.pt f ⟨f2.bs.pre, f2.bs.x, f2.bs.xn, f.su.symm, f2.bs.keep, f2.bs.dom, f2.bs.bx⟩, f2.s.suW _, f2.e.suW _ h, fun i a z => (f2.y i a z).elim (fun w => .inl (f.bs.free w)) f.own_y⟩
theorem Fr.dropF {b : Bs} {su : Su} (f : Fr g b su c H S o σ ρ) (i : Nat) : Fr g b su c H S o (σ.set i none) (ρ.set i .emp) := ⟨f.su, f.bs, f.s, f.e.drop i, f.y⟩
theorem RepT.suW {d : D} {v : V} (h : RepT g c H d v) (s : Su) (hd : isX d = false) : RepT g (c.with s) H d v := by
  cases d with
  | own i xs =>
    obtain ⟨a, vs, h1, h2, h3, h4⟩ := h
    exact ⟨a, vs, h1, h2, h3, Reps.cy cy_su _ _ h4⟩
  | new xs =>
    obtain ⟨a, vs, h1, h2, h3⟩ := h
    exact ⟨a, vs, h1, h2, Reps.cy cy_su _ _ h3⟩
  | exn k fs => cases hd
  | _ => exact Rep.cy cy_su _ _ h
/-- a suite's outcome -/
theorem suite_post {nm : Option Nat} {Dn Dn' : Ends} {q : Addr × Value × Option Addr} {r : O} (f : Fr g b none c H S o σ ρ) (h : PostS g b none W Dn (clr nm r))
    (hn : ∀ {c2 : Ct} {H2 : Hp} {S2 : Sto} {o2 : List (Nat × Addr)} {σ2 : L2.St} {ρ2 : Ev}, Fr g ⟨c.with (some q), H, o.map (·.2)⟩ (some q) c2 H2 S2 o2 σ2 ρ2 → hasX (clrE nm ρ2) = false →
      ∃ c3 σ3, Fr g b none c3 H2 S2 o2 σ3 (clrE nm ρ2) ∧ (Dn.nx σ3 H2 → Dn'.nx σ2 H2) ∧ (Dn.bk σ3 H2 → Dn'.bk σ2 H2) ∧ (Dn.ct σ3 H2 → Dn'.ct σ2 H2))
    (hr : ∀ v H, Dn.rt v H → Dn'.rt v H) : PostS g ⟨c.with (some q), H, o.map (·.2)⟩ (some q) noW Dn' r := by
  cases r with
  | next ρ2 S2 =>
    intro c2 H2 o2 σ2 f2
    change PostS g b none W Dn (nxC (clrE nm ρ2) (.next (clrE nm ρ2) S2)) at h
    unfold nxC at h
    cases z : hasX (clrE nm ρ2) with
    | true => rw [z, if_pos rfl] at h; exact h.elim
    | false =>
      rw [z, if_neg Bool.false_ne_true] at h
      obtain ⟨c3, σ3, f3, k1, k2, k3⟩ := hn f2 z
      exact k1 (h c3 H2 o2 σ3 f3)
  | brk ρ2 S2 =>
    intro c2 H2 o2 σ2 f2
    change PostS g b none W Dn (nxC (clrE nm ρ2) (.brk (clrE nm ρ2) S2)) at h
    unfold nxC at h
    cases z : hasX (clrE nm ρ2) with
    | true => rw [z, if_pos rfl] at h; exact h.elim
    | false =>
      rw [z, if_neg Bool.false_ne_true] at h
      obtain ⟨c3, σ3, f3, k1, k2, k3⟩ := hn f2 z
      exact k2 (h c3 H2 o2 σ3 f3)
  | cont ρ2 S2 =>
    intro c2 H2 o2 σ2 f2
    change PostS g b none W Dn (nxC (clrE nm ρ2) (.cont (clrE nm ρ2) S2)) at h
    unfold nxC at h
    cases z : hasX (clrE nm ρ2) with
    | true => rw [z, if_pos rfl] at h; exact h.elim
    | false =>
      rw [z, if_neg Bool.false_ne_true] at h
      obtain ⟨c3, σ3, f3, k1, k2, k3⟩ := hn f2 z
      exact k3 (h c3 H2 o2 σ3 f3)
  | ret d S2 =>
    intro c2 H2 v hs hb s hv w
    change PostS g b none W Dn (if isX d then .bad else .ret d S2) at h
    cases z : isX d with
    | true => rw [z, if_pos rfl] at h; exact h.elim
    | false =>
      rw [z, if_neg Bool.false_ne_true] at h
      refine hr _ _ (h (c2.with none) H2 v rfl (B.pt f ⟨hb.pre, hb.x, hb.xn, f.su.symm, hb.keep, hb.dom, hb.bx⟩) (s.suW _) (hv.suW _ z) ?_)
      cases d with
      | new xs =>
        obtain ⟨a, vs, h1, h2, h3, h4, h5⟩ := w
        exact ⟨a, vs, h1, f.bs.free h2, h3.suW none, h4, Reps.cy (cy_su (c := c2.plus a)) _ _ h5⟩
      | own i xs =>
        obtain ⟨a, h1, h2, h3⟩ := w
        exact ⟨a, h1, h2.elim (fun z => .inl (f.bs.free z)) f.own_y, h3⟩
      | _ => trivial
  | err k fs ρ2 S2 => exact (show False from h).elim
  | bad => exact (show False from h).elim
theorem sTry_err {k k1 : Nat} {nm : Option Nat} {fs : List D} {hh : Ev → Sto → O} (h : PostS g b su W Dn (sTry G k nm hh (.err k1 fs ρ S))) :
    G.exc? k1 = true ∧ G.exc? k = true ∧ PostS g b su W Dn (if G.subB k1 k then clr nm (hh (hdlE nm k1 fs ρ) S) else .err k1 fs ρ S) := by
  change PostS g b su W Dn (if (G.exc? k1 && G.exc? k) = false then .bad else _) at h
  cases z : (G.exc? k1 && G.exc? k) with
  | false => rw [z, if_pos rfl] at h; exact h.elim
  | true =>
    rw [z, if_neg (by decide)] at h
    rw [Bool.and_eq_true] at z
    exact ⟨z.1, z.2, h⟩
theorem s_try_as {sc : Scope} {nm : Str} {body suite : List Stmt} {b0 : Stmt} {np pos' : Pos} {cc : ClsT} (C : Cok G g n cm none X W) (K : Sok sc X) {cb hh : CB} {k i : Nat} (hi : X.N[i]? = some nm) (hl : X.env.kindOf nm = some .local) (hg : glB X.env.scope x = true) (hm : nmOk x = true) (hk : G.clss[k]? = some cc) (hx : cc.name = x)
    (hb : ∀ (W : WX) (pn : List (Addr × Obj)) (xe : Value → Shared → Prop), Takes (X.tr pn xe) W → PassesOwn (model X.prog X.w) X.A X.env xe → ∀ b, PSs (X.tr pn xe) body (LSt g b none W (evB G (Tk.call G n) cb)))
    (hsu : ∀ (a : Addr) (oe : Obj) (cls : Value) (d : Option Addr) (pn : List (Addr × Obj)), Zc cls d oe → (∃ vs, oe.data = .fields vs) → ∀ b, PSs (X.suite a ((a, oe) :: pn)) (b0 :: suite) (LSt g b (some (a, cls, d)) noW (evB G (Tk.call G n) hh))) :
    PS X (.Try body [.ExceptHandler (some (.Name x np)) (some nm) (b0 :: suite) pos'] [] [] pos) (LSt g b none W (evS G (Tk.call G n) (.try_ cb k (some i) hh))) := by
  have mg := C.st.mgc k cc hk
  rw [hx] at mg
  refine PS.imp (ps_try_as K.st K.fr C.nd hi hl ⟨gl_of hg, (nm_of hm).1, .inl mg⟩ C.tk (tb := fun W' => LSt g b none W' (evB G (Tk.call G n) cb)) (ts := fun a cls d Dn σ H => ∃ b, LSt g b (some (a, cls, d)) noW (evB G (Tk.call G n) hh) Dn σ H)
    (fun W' pn xe t p => hb W' pn xe t p b) (fun a oe cls d pn z w => PSs.sem fun Dn σ H ⟨b, h⟩ => ⟨_, hsu a oe cls d pn z w b, h⟩)) fun Dn σ H h => ?_
  obtain ⟨c, S, ρ, o, f, h⟩ := h
  rw [evS] at h
  refine ⟨c, S, ρ, o, f, ?_⟩
  cases q : evB G (Tk.call G n) cb ρ S with
  | err k1 fs ρ1 S1 =>
    rw [q] at h
    obtain ⟨e1, e2, h⟩ := sTry_err h
    intro c1 H1 o1 σ1 dx f1 hx
    have ex := C.st.exm k1 k e1 e2
    rw [C.K] at ex
    refine ⟨G.subB k1 k, ex, fun hb a na => ?_, fun hb => ?_⟩
    · rw [hb, if_pos rfl] at h
      refine ⟨⟨c1.with (some (a, .ref (g.ca k1), dx)), H1, o1.map (·.2)⟩, c1.with (some (a, .ref (g.ca k1), dx)), S1, ρ1.set i (.exc k1 fs), o1, f1.enter hx i, ?_⟩
      exact suite_post f1 h (fun {c2 H2 S2 o2 σ2 ρ2} f2 hx => ⟨c2.with none, σ2.set i none, f1.leave (f2.dropF i) hx, id, id, id⟩) fun _ _ z => z
    · rw [hb, if_neg Bool.false_ne_true] at h
      exact h c1 H1 o1 σ1 dx f1 hx
  | next ρ1 S1 => rw [q] at h; exact h
  | ret d S1 => rw [q] at h; exact h
  | brk ρ1 S1 => rw [q] at h; exact h
  | cont ρ1 S1 => rw [q] at h; exact h
  | bad => rw [q] at h; exact h
theorem s_try_only {sc : Scope} {body suite : List Stmt} {b0 : Stmt} {np pos' : Pos} {cc : ClsT} (C : Cok G g n cm none X W) (K : Sok sc X) {cb hh : CB} {k : Nat} (hg : glB X.env.scope x = true) (hm : nmOk x = true) (hk : G.clss[k]? = some cc) (hx : cc.name = x)
    (hb : ∀ (W : WX) (pn : List (Addr × Obj)) (xe : Value → Shared → Prop), Takes (X.tr pn xe) W → PassesOwn (model X.prog X.w) X.A X.env xe → ∀ b, PSs (X.tr pn xe) body (LSt g b none W (evB G (Tk.call G n) cb)))
    (hsu : ∀ (a : Addr) (oe : Obj) (cls : Value) (d : Option Addr) (pn : List (Addr × Obj)), Zc cls d oe → (∃ vs, oe.data = .fields vs) → ∀ b, PSs (X.suite a ((a, oe) :: pn)) (b0 :: suite) (LSt g b (some (a, cls, d)) noW (evB G (Tk.call G n) hh))) :
    PS X (.Try body [.ExceptHandler (some (.Name x np)) none (b0 :: suite) pos'] [] [] pos) (LSt g b none W (evS G (Tk.call G n) (.try_ cb k none hh))) := by
  have mg := C.st.mgc k cc hk
  rw [hx] at mg
  refine PS.imp (ps_try_only K.st K.fr ⟨gl_of hg, (nm_of hm).1, .inl mg⟩ C.tk (tb := fun W' => LSt g b none W' (evB G (Tk.call G n) cb)) (ts := fun a cls d Dn σ H => ∃ b, LSt g b (some (a, cls, d)) noW (evB G (Tk.call G n) hh) Dn σ H)
    (fun W' pn xe t p => hb W' pn xe t p b) (fun a oe cls d pn z w => PSs.sem fun Dn σ H ⟨b, h⟩ => ⟨_, hsu a oe cls d pn z w b, h⟩)) fun Dn σ H h => ?_
  obtain ⟨c, S, ρ, o, f, h⟩ := h
  rw [evS] at h
  refine ⟨c, S, ρ, o, f, ?_⟩
  cases q : evB G (Tk.call G n) cb ρ S with
  | err k1 fs ρ1 S1 =>
    rw [q] at h
    obtain ⟨e1, e2, h⟩ := sTry_err h
    intro c1 H1 o1 σ1 dx f1 hx
    have ex := C.st.exm k1 k e1 e2
    rw [C.K] at ex
    refine ⟨G.subB k1 k, ex, fun hb a na => ?_, fun hb => ?_⟩
    · rw [hb, if_pos rfl] at h
      refine ⟨⟨c1.with (some (a, .ref (g.ca k1), dx)), H1, o1.map (·.2)⟩, c1.with (some (a, .ref (g.ca k1), dx)), S1, ρ1, o1, f1.enter0 _, ?_⟩
      exact suite_post f1 h (fun {c2 H2 S2 o2 σ2 ρ2} f2 hx => ⟨c2.with none, σ2, f1.leave f2 hx, id, id, id⟩) fun _ _ z => z
    · rw [hb, if_neg Bool.false_ne_true] at h
      exact h c1 H1 o1 σ1 dx f1 hx
  | next ρ1 S1 => rw [q] at h; exact h
  | ret d S1 => rw [q] at h; exact h
  | brk ρ1 S1 => rw [q] at h; exact h
  | cont ρ1 S1 => rw [q] at h; exact h
  | bad => rw [q] at h; exact h
end
end Tk
/-! Core 36: try with two clauses that bind what they catch. -/
namespace Tk
open PySem PySem.Spec PyProof.Rows L2
section
variable {X : Cx} {B : Heap} {a : Addr} {cls : Value} {d : Option Addr} {pins : List (Addr × Obj)} {σ : L2.St} {H : Hp} {sI s' : Shared} {h3 : Heap} {D : Ends} {Wo : WX}
/-- a body's exception, noted and on the ground -/
structure Gnd (X : Cx) (B : Heap) (a : Addr) (cls : Value) (d : Option Addr) (pins : List (Addr × Obj)) (σ : L2.St) (H : Hp) (sI s' : Shared) (h3 : Heap) : Prop where
  iv : Inv X pins σ H sI
  nb : ∀ b o, sI.heap.get? b = some o → b ∉ frs X.stack → B.get? b = some o
  up : sI.heap.UpToSlots h3
  fl : HandSPX.FlyingZ B (X.env :: X.outer) a (Zc cls d) h3
  na : H a = none
  os : s'.os = sI.os
  ag : AllBare s'.gens
theorem Gnd.iv3 (g : Gnd X B a cls d pins σ H sI s' h3) : Inv X pins σ H { s' with heap := h3 } := Inv.landed (s' := { s' with heap := h3 }) g.iv g.nb g.fl.1 g.up g.os g.ag
/-- its address is no frame's -/
theorem Gnd.off (hf : X.env.frame = some X.env.locals) (g : Gnd X B a cls d pins σ H sI s' h3) : a ≠ X.env.locals ∧ a ∉ X.fs := by
  obtain ⟨oe, vs, e1, e2, e3⟩ := g.fl.there
  have key : ¬ a ∈ frs (X.env :: X.outer) := by
    intro m
    obtain ⟨_, o2, e4, n⟩ := g.fl.2.2.1.mem m
    rw [e1] at e4
    cases e4
    exact n _ e3
  refine ⟨fun z => key ?_, fun m => ?_⟩
  · exact List.mem_filterMap.mpr ⟨X.env, List.mem_cons_self, by rw [hf, z]⟩
  · obtain ⟨en, m1, m2⟩ := List.mem_filterMap.mp m
    exact key (List.mem_filterMap.mpr ⟨en, List.mem_cons_of_mem _ m1, m2⟩)
/-- it is set down once more -/
theorem Gnd.again (g : Gnd X B a cls d pins σ H sI s' h3) {h4 : Heap} (f4 : HandSPX.FlyingZ B (X.env :: X.outer) a (Zc cls d) h4) (u4 : h3.UpToSlots h4) : Gnd X B a cls d pins σ H sI s' h4 :=
  ⟨g.iv, g.nb, g.up.trans u4, f4, g.na, g.os, g.ag⟩
/-- no clause is left: it goes on -/
theorem Gnd.past (hs : X.stack = X.env :: X.outer) (hf : X.env.frame = some X.env.locals) (tk : Takes X Wo) (g : Gnd X B a cls d pins σ H sI s' h3) (w : Wo cls d σ H) :
    wpAny (model X.prog X.w) X.A (handleBy (.ref a) X.env []) (SP X pins D) X.xe { s' with heap := h3 } := by
  apply wpAny_handleBy_nil
  obtain ⟨k1, k2, k3, oe, vs, T, oT, ts', he, hz, hd, h1, hr⟩ := id g.fl
  rw [PySem.passOn]
  apply wpAny_bind
  apply wpAny_field he hd h1
  have nn : ¬ ((Value.ref T == Value.none) = true) := by simp
  rw [if_neg nn, hf]
  have last : wpAny (model X.prog X.w) X.A (setFlight (.ref a) (some X.env.locals))
      (fun _ s4 => wpAny (model X.prog X.w) X.A (throw (.ref a) : Sem Flow) (SP X pins D) X.xe s4)
      X.xe { s' with heap := h3 } := by
    apply HandSPX.setFlight_upZ g.fl
    intro h4 held u4
    apply wpAny_throw
    apply tk
    have sk : Sky B X.stack a (Zc cls d) X.env.locals h4 := .inr (.inr (by rw [hs]; exact held))
    exact ⟨a, B, sI, pins, σ, H, cls, d, rfl, g.iv, g.nb, g.up.trans u4, sk, g.na, g.os, g.ag, w⟩
  first
    | exact wpAny_bind last
    | exact wpAny_bind (wpAny_pure (wpAny_bind last))
variable {x nm : Str} {c : Value} {i : Nat} {suite : List Stmt} {b₀ : Stmt} {np pos' : Pos} {ts : TS} {rest : List ExceptHandler} {b : Bool}
abbrev offE (D : Ends) (i : Nat) : Ends := { nx := fun τ K => D.nx (τ.set i none) K, rt := D.rt, bk := fun τ K => D.bk (τ.set i none) K, ct := fun τ K => D.ct (τ.set i none) K }
/-- a clause that binds -/
theorem Gnd.clause (ok : X.Ok) (hf : X.env.frame = some X.env.locals) (hN : X.N.Nodup) (hi : X.N[i]? = some nm) (hln : X.env.kindOf nm = some .local) (hc : Names X x c) (g : Gnd X B a cls d pins σ H sI s' h3)
    (m : PySem.W.exmOne X.K cls c = some b)
    (hsu : ∀ oe, Zc cls d oe → (∃ vs, oe.data = .fields vs) → PSs (X.suite a ((a, oe) :: (X.pn ++ pins))) (b₀ :: suite) ts)
    (yes : b = true → ts (offE D i) (σ.set i (some (.ref a))) H)
    (no : b = false → wpAny (model X.prog X.w) X.A (handleBy (.ref a) X.env rest) (SP X pins D) X.xe { s' with heap := h3 }) :
    wpAny (model X.prog X.w) X.A (handleBy (.ref a) X.env (.ExceptHandler (some (.Name x np)) (some nm) (b₀ :: suite) pos' :: rest)) (SP X pins D) X.xe { s' with heap := h3 } := by
  obtain ⟨nL, nF⟩ := g.off hf
  have J := g.iv3
  obtain ⟨o3, v3, e1, e2, e3⟩ := g.fl.there
  have S3 := J.suite e1 e3 g.na nL nF
  have look : PySem.W.Looks (model X.prog X.w) h3 (typeOf (.ref a)) cls := by
    intro A Q E s k q
    apply wpAny_typeOf_ref (k _ _ e1)
    rw [e2.1]; exact q
  have hit := PySem.W.exm_one (M := model X.prog X.w) J.kIn look m
  apply wpAny_handleBy_cons _ (by intro q; cases q)
  apply codeAny_handlers_test
  have nameOk : ∀ {Q : Value → Shared → Prop} {E : Value → Shared → Prop}, Q c { s' with heap := h3 } →
      wpAny (model X.prog X.w) (X.A.mark (some (.ref a))) (eval (.Name x np) X.env) Q E { s' with heap := h3 } := by
    intro Q E q
    rcases hc with ⟨hg, hdb, h⟩
    rcases h with h | ⟨h, hv, hn⟩
    · exact ld_glob (X := X.suite a ((a, o3) :: (X.pn ++ pins))) S3 hg h q hdb
    · exact ld_blt (X := X.suite a ((a, o3) :: (X.pn ++ pins))) S3 hg h hv q hn hdb
  apply nameOk
  apply hit.here
  by_cases hb : b = true
  · subst hb
    apply codeAny_handlers_suite_as
    apply HandSPX.lands_againZ g.fl
    intro h4 f4 u4
    have g4 := g.again f4 u4
    obtain ⟨o4, v4, e4, e5, e6⟩ := f4.there
    have S4 := g4.iv3.suite e4 e6 g.na nL nF
    refine store_ok (X := X.suite a ((a, o4) :: (X.pn ++ pins))) (v := .ref a) S4 hN hi (.inl hln) rfl ?_ (.inr hln)
    intro s5 S5
    have bye : ∀ {τ : L2.St} {K : Hp} {s6 : Shared} {Q : Shared → Prop}, Inv (X.suite a ((a, o4) :: (X.pn ++ pins))) [] τ K s6 →
        (∀ s7, Inv X pins (τ.set i none) K s7 → Q s7) →
        wpAny (model X.prog X.w) X.A (do bindName X.env nm .none; unbindBehindTheSuite X.env nm pos') (fun _ s7 => Q s7) X.xe s6 := by
      intro τ K s6 Q I6 q
      exact gone_ok (I6.unsuite ok) hN hi hln q
    apply wpAny_mono ((hsu o4 e5 ⟨_, e6⟩).run [] s5 _ H _ S5 (yes rfl)) _ (fun _ _ z => False.elim z)
    intro f s6 o
    cases f with
    | ret u => exact let ⟨w, τ, K, I6, r, q⟩ := o; bye I6 fun s7 I7 => ⟨w, _, _, I7, r, q⟩
    | next => exact let ⟨τ, K, I6, q⟩ := o; bye I6 fun s7 I7 => ⟨_, _, I7, q⟩
    | brk => exact let ⟨τ, K, I6, q⟩ := o; bye I6 fun s7 I7 => ⟨_, _, I7, q⟩
    | cont => exact let ⟨τ, K, I6, q⟩ := o; bye I6 fun s7 I7 => ⟨_, _, I7, q⟩
  · have hb : b = false := by cases b <;> first | rfl | exact absurd rfl hb
    subst hb
    exact no rfl
end
section
variable {X : Cx} {x1 x2 m1 m2 : Str} {c1 c2 : Value} {i1 i2 : Nat} {body u1 u2 : List Stmt} {b1 b2 : Stmt} {np1 np2 p1 p2 pos : Pos} {tb : WX → TS} {t1 t2 : Addr → Value → Option Addr → TS} {Wo : WX}
/-- what the two clauses wish of an exception of the body -/
def wTwo (K : PySem.W.Frag) (c1 c2 : Value) (i1 i2 : Nat) (t1 t2 : Addr → Value → Option Addr → TS) (Wo : WX) (D : Ends) : WX := wAs K c1 i1 t1 (wAs K c2 i2 t2 Wo D) D
theorem ps_try_two (hs : X.stack = X.env :: X.outer) (hf : X.env.frame = some X.env.locals) (hN : X.N.Nodup) (h1 : X.N[i1]? = some m1) (h2 : X.N[i2]? = some m2) (l1 : X.env.kindOf m1 = some .local) (l2 : X.env.kindOf m2 = some .local)
    (n1 : Names X x1 c1) (n2 : Names X x2 c2) (tk : Takes X Wo)
    (hb : ∀ (W : WX) (pn : List (Addr × Obj)) (xe : Value → Shared → Prop), Takes (X.tr pn xe) W → PassesOwn (model X.prog X.w) X.A X.env xe → PSs (X.tr pn xe) body (tb W))
    (s1 : ∀ (a : Addr) (oe : Obj) (cls : Value) (d : Option Addr) (pn : List (Addr × Obj)), Zc cls d oe → (∃ vs, oe.data = .fields vs) → PSs (X.suite a ((a, oe) :: pn)) (b1 :: u1) (t1 a cls d))
    (s2 : ∀ (a : Addr) (oe : Obj) (cls : Value) (d : Option Addr) (pn : List (Addr × Obj)), Zc cls d oe → (∃ vs, oe.data = .fields vs) → PSs (X.suite a ((a, oe) :: pn)) (b2 :: u2) (t2 a cls d)) :
    PS X (.Try body [.ExceptHandler (some (.Name x1 np1)) (some m1) (b1 :: u1) p1, .ExceptHandler (some (.Name x2 np2)) (some m2) (b2 :: u2) p2] [] [] pos)
      (fun D σ H => tb (wTwo X.K c1 c2 i1 i2 t1 t2 Wo D) D σ H) := by
  constructor
  intro pins s σ H D I h
  have ok := I.ok
  have fr : X.A.frames = some (X.env :: X.outer) := by rw [ok.frames, hs]
  apply wpAny_Try_except
  let hds : List ExceptHandler := [.ExceptHandler (some (.Name x1 np1)) (some m1) (b1 :: u1) p1, .ExceptHandler (some (.Name x2 np2)) (some m2) (b2 :: u2) p2]
  let xe' : Value → Shared → Prop := fun e z1 => wpAny (model X.prog X.w) X.A (noteFrame e X.env)
    (fun _ z2 => wpAny (model X.prog X.w) X.A (setFlight e none) (fun _ z3 => wpAny (model X.prog X.w) X.A (handleBy e X.env hds) (SP X pins D) X.xe z3) X.xe z2) X.xe z1
  have tk' : Takes (X.tr (X.pn ++ pins) xe') (wTwo X.K c1 c2 i1 i2 t1 t2 Wo D) := by
    rintro u s' ⟨a, B, sI, pins', σ', H', cls, d, rfl, J', nb, up, sky, na, os, ag, v1, q1, y1, w1⟩
    have J : Inv X pins σ' H' sI := J'.ofTry ok
    have sky2 : Sky B (X.env :: X.outer) a (Zc cls d) X.env.locals s'.heap := by rw [← hs]; exact sky
    show wpAny (model X.prog X.w) X.A (noteFrame (.ref a) X.env) _ _ s'
    apply Sky.land Zc.steady fr hf sky2
    intro h3 f3 u3
    have g : Gnd X B a cls d pins σ' H' sI s' h3 := ⟨J, nb, up.trans u3, f3, na, os, ag⟩
    refine g.clause ok hf hN h1 l1 n1 q1 (fun oe z k => s1 a oe cls d _ z k) (fun e => y1 e a na) fun e => ?_
    obtain ⟨v2, q2, y2, w2⟩ := w1 e
    exact g.clause ok hf hN h2 l2 n2 q2 (fun oe z k => s2 a oe cls d _ z k) (fun e => y2 e a na) fun e => g.past hs hf tk (w2 e)
  refine wpAny_mono ((hb _ (X.pn ++ pins) xe' tk' PassesOwn.looking).run [] s σ H D (I.toTry _) h) ?_ (fun _ _ z => z)
  intro f s6 o
  cases f with
  | ret u => exact let ⟨v, τ, K, I6, r, q⟩ := o; ⟨v, τ, K, I6.ofTry ok, r, q⟩
  | next => exact let ⟨τ, K, I6, q⟩ := o; wpAny_execs_nil ⟨τ, K, I6.ofTry ok, q⟩
  | brk => exact let ⟨τ, K, I6, q⟩ := o; ⟨τ, K, I6.ofTry ok, q⟩
  | cont => exact let ⟨τ, K, I6, q⟩ := o; ⟨τ, K, I6.ofTry ok, q⟩
end
end Tk
/-! Core 25: names set by any reading; pairs; raise. -/
namespace Tk
open PySem PySem.Spec PyProof.Rows L2

section
variable {G : Prog} {g : Wd} {n : Nat} {cm : Bool} {su : Su} {X : Cx} {W : WX} {b : Bs} {c c' c1 c2 : Ct} {H H' H1 H2 : Hp} {S S' S1 S2 : Sto} {ρ ρ' ρ2 : Ev} {o o' o2 : List (Nat × Addr)} {σ σ' σ2 : L2.St} {Q : VK} {e t a e1 e2 : Expr} {pos p1 p2 apos : Pos} {x y : Str} {Dn : Ends} {st : Stmt} {sts : List Stmt} {A : Addr}
theorem never_st : PS X st (LSt g b su W (evS G (Tk.call G n) .never)) := by
  refine PS.sem fun Dn σ H h => ?_
  obtain ⟨c, S, ρ, o, f, h⟩ := h
  rw [evS] at h
  exact h.elim
theorem asg_set {te : TE} {ce : CE} {i : Nat} (hp : PS X st (tAsg te (gName i))) (hi : ∀ σ H Q, LT g su W (evE G (Tk.call G n) ce) σ H Q → te σ H Q) : PS X st (LSt g b su W (evS G (Tk.call G n) (.set i ce))) := by
  refine PS.imp hp fun Dn σ H h => hi _ _ _ ?_
  obtain ⟨c, S, ρ, o, f, h⟩ := h
  rw [evS] at h
  refine LT.mk f.at (PostS.bE f h fun d S1 v H1 c1 _ q f1 h1 => ?_)
  unfold sSet at h1
  by_cases hd : still d = true
  · rw [if_pos hd] at h1
    exact h1 c1 H1 o _ (f1.set (q.r.rest hd))
  · rw [if_neg hd] at h1; exact h1.elim
theorem asg_setO {te : TE} {ce : CE} {i : Nat} (hp : PS X st (tAsg te (gName i))) (hi : ∀ σ H Q, LT g su W (evE G (Tk.call G n) ce) σ H Q → te σ H Q) : PS X st (LSt g b su W (evS G (Tk.call G n) (.setO i ce))) := by
  refine PS.imp hp fun Dn σ H h => hi _ _ _ ?_
  obtain ⟨c, S, ρ, o, f, h⟩ := h
  rw [evS] at h
  refine LT.mk f.at (PostS.bE f h fun d S1 v H1 c1 _ q f1 h1 => ?_)
  cases d with
  | new xs =>
    obtain ⟨c', o', f'⟩ := f.setO (i := i) q
    exact h1 c' H1 o' _ f'
  | _ => exact h1.elim
theorem asg_setL {te : TE} {ce : CE} {i : Nat} (hp : PS X st (tAsg te (gName i))) (hi : ∀ σ H Q, LT g su W (evE G (Tk.call G n) ce) σ H Q → te σ H Q) : PS X st (LSt g b su W (evS G (Tk.call G n) (.setL i ce))) := by
  refine PS.imp hp fun Dn σ H h => hi _ _ _ ?_
  obtain ⟨c, S, ρ, o, f, h⟩ := h
  rw [evS] at h
  refine LT.mk f.at (PostS.bE f h fun d S1 v H1 c1 _ q f1 h1 => ?_)
  cases d with
  | new xs =>
    obtain ⟨c', f'⟩ := f.setL (i := i) q
    exact h1 c' H1 o _ f'
  | _ => exact h1.elim
theorem s_par (C : Cok G g n cm su X W) (hcm : cm = true) {ca cb : CE} {i j : Nat} {px py pt : Pos} {kt k2 pt2} (hi : X.N[i]? = some x) (hj : X.N[j]? = some y) (hij : i ≠ j) (hx : X.env.scope.names.lookup x = some .local) (hy : X.env.scope.names.lookup y = some .local)
    (h1 : plainX e1 = true) (h2 : plainX e2 = true) (ha : PE X e1 (LT g su W (evE G (Tk.call G n) ca))) (hb : PE X e2 (LT g su W (evE G (Tk.call G n) cb)))
    (hw : swappedStores [.Tuple [.Name x px, .Name y py] kt pt] (.Tuple [e1, e2] k2 pt2) X.env = pure (some [x, y])) :
    PS X (.Assign [.Tuple [.Name x px, .Name y py] kt pt] (.Tuple [e1, e2] k2 pt2) pos) (LSt g b su W (evS G (Tk.call G n) (.par i j ca cb))) := by
  refine PS.imp (ps_par (C.cm hcm).1 C.nd hi hj hij hx hy (pa_cons ha (pa_cons hb pa_nil (star_cons h2)) (star_cons h1)) hw) fun Dn σ H h => ?_
  obtain ⟨c, S, ρ, o, f, h⟩ := h
  rw [evS] at h
  refine LT.mk f.at (PostS.bE f h fun d S1 v H1 c1 _ q f1 h1 => ?_)
  have h1 : PostS g b su W Dn ((evE G (Tk.call G n) cb ρ S1).b ρ (sPar2 i j ρ d)) := h1
  refine LT.mk f1.at (PostS.bE f1 h1 fun d2 S2 v2 H2 c2 _ q2 f2 h2 => ?_)
  have h2 : PostS g b su W Dn (if still d && still d2 then .next ((ρ.set i (.val (fz d))).set j (.val (fz d2))) S2 else .bad) := h2
  by_cases hd : (still d && still d2) = true
  · rw [if_pos hd] at h2
    rw [Bool.and_eq_true] at hd
    exact ⟨v, v2, rfl, h2 c2 H2 o _ ((f2.set (Rep.cy q2.e.cy _ _ (q.r.rest hd.1))).set (q2.r.rest hd.2))⟩
  · rw [if_neg hd] at h2; exact h2.elim
theorem s_doc {x j p} : PS X (.Expr (.Constant (.str x) j p) pos) (LSt g b su W (evS G (Tk.call G n) .pass)) := by
  refine PS.imp ps_doc fun Dn σ H h => ?_
  obtain ⟨c, S, ρ, o, f, h⟩ := h
  rw [evS] at h
  exact h c H o σ f
end
end Tk
/-! Core 26: raise of an own exception with one field. -/
namespace Tk
open PySem PySem.Spec PyProof.Rows L2

section
variable {G : Prog} {g : Wd} {n : Nat} {cm : Bool} {su : Su} {X : Cx} {W : WX} {b : Bs} {c c' c1 c2 : Ct} {H H' H1 H2 : Hp} {S S' S1 S2 : Sto} {ρ ρ' ρ2 : Ev} {o o' o2 : List (Nat × Addr)} {σ σ' σ2 : L2.St} {Q : VK} {e t a e1 e2 : Expr} {pos p1 p2 apos : Pos} {x y : Str} {Dn : Ends} {st : Stmt} {sts : List Stmt} {A : Addr}
theorem LA.mk {ev : Ev → Sto → R (List D)} {Q : List V → Hp → Prop} (a : At g su c H S o σ ρ) (h : PostA g c H (fun cls dx H' => W cls dx σ H') Q (ev ρ S)) : LA g su W ev σ H Q := ⟨c, S, ρ, o, a.su, a.s, a.e, h⟩
theorem s_raise (C : Cok G g n true su X W) {ces : CEs} {k : Nat} {f : Str} {cc : ClsT} (hg : glB X.env.scope x = true) (hm : nmOk x = true) (hk : G.clss[k]? = some cc) (hx : cc.name = x) (he : cc.exc = true) (hf : cc.fields = [f]) (hp : plainX e = true)
    (ha : PA X [e] (LA g su W (evEs G (Tk.call G n) ces))) : PS X (.Raise (some (.Call (.Name x p1) [e] [] p2)) none pos) (LSt g b su W (evS G (Tk.call G n) (.raise k ces))) := by
  have mg := C.st.mgc k cc hk
  rw [hx] at mg
  obtain ⟨T, fI, fd, pn, h1, h2, F, hb⟩ := C.ex k cc f hk he hf
  have hK := C.K
  rw [hK] at T h1 h2 F hb
  refine PS.imp (ps_raise (C.cm rfl).1 C.tk (pmk_oex (ds := []) (dvs := []) T h1 h2 F ((C.cm rfl).2.1.mono (by unfold lv; omega)) hb .nil (fun pins σ H s e s' I h => by
    obtain ⟨_, _, _, _, _, _, _, _, _, _, _, _, z⟩ := h
    exact z.elim) (gl_of hg) mg ha (nm_of hm).1 (star_cons hp) rfl)) fun Dn σ H h => ?_
  obtain ⟨c, S, ρ, o, fr, h⟩ := h
  rw [evS] at h
  refine LA.mk fr.at (PostS.bA fr h fun ds S1 vs H1 c1 _ q f1 h3 => ?_)
  unfold sRaise at h3
  cases hz : fzs ds with
  | none => rw [hz] at h3; exact h3.elim
  | some xs =>
    rw [hz] at h3
    dsimp only at h3
    have hr := q.r.rest hz
    have hn : nflds G k = 1 := by unfold nflds; rw [hk]; show cc.fields.length = 1; rw [hf]; rfl
    rw [hn] at h3
    by_cases hl : xs.length = 1
    · rw [if_pos hl] at h3
      obtain ⟨d, rfl⟩ : ∃ d, xs = [d] := by
        match xs, hl with
        | [d], _ => exact ⟨d, rfl⟩
      obtain ⟨v, r, rfl, hv, hr2⟩ := Reps.cons_iff.mp hr
      obtain rfl := Reps.nil_iff.mp hr2
      refine ⟨by show 1 ≤ 1000; omega, fun z hz => ⟨z, v, rfl, upd_same, fun dx hd hne => ⟨rfl, dx, [(f, v)], upd_same, by rw [upd_ne hne, upd_same], by rw [upd_ne hne] at hd; exact hd, ?_⟩⟩⟩
      rw [upd_ne hne] at hd
      have eH : L2.upd (L2.del (L2.upd (L2.upd (L2.upd H1 z (exo z (g.ca k) none)) dx (exd dx [(f, v)])) z (exo z (g.ca k) (some dx))) z) dx (.xd [(f, v)]) = L2.upd H1 dx (.xd [(f, v)]) := by
        funext p
        by_cases q1 : p = dx
        · subst q1; rw [upd_same, upd_same]
        · rw [upd_ne q1, upd_ne q1]
          by_cases q2 : p = z
          · subst q2; rw [del_same]; exact hz.symm
          · rw [del_ne q2, upd_ne q2, upd_ne q1, upd_ne q2]
      rw [eH]
      have hcf := C.st.cf k cc hk
      refine h3 c1 _ o σ (some dx) (f1.go (E.upd f1.s.there hd) (f1.s.upd hd)) ⟨[v], by rw [hcf, hf]; rfl, Reps.cons (Rep.cy (cy_upd hd) _ _ hv) Reps.nil, .inr ⟨dx, rfl, ?_, fun w => f1.s.there dx w hd, fun w => (f1.s.x dx w).2 hd⟩⟩
      rw [upd_same, hcf, hf]; rfl
    · rw [if_neg hl] at h3; exact h3.elim
end
end Tk
/-! Core 37: += and -= on names and on items of own lists; a try with two clauses, as two tries one in the other. -/
namespace Tk
open PySem PySem.Spec PyProof.Rows L2
/-- no own class has // -/
def noFd (G : Prog) : Bool := G.clss.all fun c => c.ops.all fun p => decide (p.1 ≠ .fdiv)
section
variable {G : Prog} {g : Wd} {n : Nat} {cm : Bool} {su : Su} {X : Cx} {W : WX} {b : Bs} {c c' c1 c2 : Ct} {H H' H1 H2 : Hp} {S S' S1 S2 : Sto} {ρ ρ' ρ2 : Ev} {o o' o2 : List (Nat × Addr)} {σ σ' σ2 : L2.St} {Q : VK} {e t a : Expr} {pos p1 p2 apos : Pos} {x : Str} {Dn : Ends} {st : Stmt} {sts : List Stmt} {A : Addr} {cl : Cl}
theorem opOf_fd (h : noFd G = true) {k : Nat} {fs : List D} : G.opOf .fdiv (.obj k fs) = none := by
  unfold Prog.opOf
  cases q : G.clss[k]? with
  | none => simp [q]
  | some cc =>
    have h1 := List.all_eq_true.mp h cc (List.mem_of_getElem? q)
    have e : cc.ops.find? (fun p => p.1 == Bi.fdiv) = none := by
      rw [List.find?_eq_none]
      intro p hp z
      have h2 := List.all_eq_true.mp h1 p hp
      have h2 : p.1 ≠ .fdiv := of_decide_eq_true h2
      exact h2 (eq_of_beq z)
    simp [q, e]
theorem fd1 (h : noFd G = true) (x : D) (S : Sto) : (∃ a, x = .int a ∧ binD G cl .fdiv x (.int 1) S = .ok (.int a) S) ∨ binD G cl .fdiv x (.int 1) S = .bad := by
  cases x with
  | int a =>
    refine .inl ⟨a, rfl, ?_⟩
    show (if divOk 1 then R.ok (D.int (a.fdiv 1)) S else .bad) = _
    have : divOk 1 := by decide +kernel
    rw [if_pos this, Int.fdiv_one]
  | obj k fs =>
    refine .inr ?_
    show binL cl k fs (.int 1) S (G.opOf .fdiv (.obj k fs)) = .bad
    rw [opOf_fd h]; rfl
  | _ => exact .inr rfl
theorem b_bind {α β : Type} (r : R α) (k1 : α → Sto → R β) (k2 : β → Sto → O) : (r.bind k1).b ρ k2 = r.b ρ fun x S => (k1 x S).b ρ k2 := by cases r <;> rfl
/-- + and - of integers -/
def ipOk (bo : Bi) (op : Operator) : Bool := match bo, op with
  | .add, .Add => true
  | .sub, .Sub => true
  | _, _ => false
theorem ip_of {bo : Bi} {op : Operator} (h : ipOk bo op = true) : ∃ f : Int → Int → Int, PIp X op (ipI f) ∧ ∀ i j S, binD G cl bo (.int i) (.int j) S = .ok (.int (f i j)) S := by
  cases bo <;> cases op <;> first
    | exact ⟨_, ip_add, fun _ _ _ => rfl⟩
    | exact ⟨_, ip_sub, fun _ _ _ => rfl⟩
    | (cases h; done)
/-- name += e -/
theorem s_aug {sc : Scope} (C : Cok G g n cm su X W) (K : Sok sc X) {ce : CE} {i : Nat} {bo : Bi} {op : Operator} (hf : noFd G = true) (hi : X.N[i]? = some x) (hl : locB sc x = true) (hop : ipOk bo op = true) (he : PE X e (LT g su W (evE G (Tk.call G n) ce))) :
    PS X (.AugAssign (.Name x p1) op e pos) (LSt g b su W (evS G (Tk.call G n) (.set i (.bin bo (.bin .fdiv (.var i) (.int 1)) (.bin .fdiv ce (.int 1)))))) := by
  obtain ⟨f0, ip, hb⟩ := ip_of (G := G) (cl := Tk.call G n) (X := X) hop
  refine PS.imp (ps_aug C.nd hi (K.loc x hl).1 he ip (K.loc x hl).2) fun Dn σ H h => ?_
  obtain ⟨c, S, ρ, o, f, h⟩ := h
  rw [evS, evE, evE, evE] at h
  cases q0 : ρ[i]? with
  | none => rw [q0] at h; exact h.elim
  | some s =>
    rw [q0] at h
    have key : ∀ x0, PostS g b su W Dn (((binD G (Tk.call G n) .fdiv x0 (.int 1) S).bind (kBin G (Tk.call G n) bo (evE G (Tk.call G n) (.bin .fdiv ce (.int 1)) ρ))).b ρ (sSet i ρ)) → ∃ a, x0 = .int a ∧ PostS g b su W Dn ((evE G (Tk.call G n) ce ρ S).b ρ fun y S1 => ((binD G (Tk.call G n) .fdiv y (.int 1) S1).bind (binD G (Tk.call G n) bo (.int a))).b ρ (sSet i ρ)) := by
      intro x0 h
      rcases fd1 (cl := Tk.call G n) hf x0 S with ⟨a, rfl, e1⟩ | e1
      · rw [e1] at h
        refine ⟨a, rfl, ?_⟩
        have h : PostS g b su W Dn (((evE G (Tk.call G n) (.bin .fdiv ce (.int 1)) ρ S).bind (binD G (Tk.call G n) bo (.int a))).b ρ (sSet i ρ)) := h
        rw [evE] at h
        cases q : evE G (Tk.call G n) ce ρ S with
        | ok d S1 =>
          rw [q] at h
          have h : PostS g b su W Dn ((((evE G (Tk.call G n) (.int 1) ρ S1).bind (binD G (Tk.call G n) .fdiv d)).bind (binD G (Tk.call G n) bo (.int a))).b ρ (sSet i ρ)) := h
          rw [evE] at h
          exact h
        | err k fs S1 => rw [q] at h; exact h
        | bad => rw [q] at h; exact h
      · rw [e1] at h; exact h.elim
    have one : ∀ x0, PostS g b su W Dn ((((R.ok x0 S : R D).bind (kBin G (Tk.call G n) .fdiv (evE G (Tk.call G n) (.int 1) ρ))).bind (kBin G (Tk.call G n) bo (evE G (Tk.call G n) (.bin .fdiv ce (.int 1)) ρ))).b ρ (sSet i ρ)) → PostS g b su W Dn (((binD G (Tk.call G n) .fdiv x0 (.int 1) S).bind (kBin G (Tk.call G n) bo (evE G (Tk.call G n) (.bin .fdiv ce (.int 1)) ρ))).b ρ (sSet i ρ)) := by
      intro x0 h
      have h : PostS g b su W Dn ((((evE G (Tk.call G n) (.int 1) ρ S).bind (binD G (Tk.call G n) .fdiv x0)).bind (kBin G (Tk.call G n) bo (evE G (Tk.call G n) (.bin .fdiv ce (.int 1)) ρ))).b ρ (sSet i ρ)) := h
      rw [evE] at h
      exact h
    cases s with
    | emp => exact h.elim
    | exc k fs =>
      obtain ⟨a, z, _⟩ := key _ (one (.exn k fs) h)
      cases z
    | own xs =>
      obtain ⟨a, z, _⟩ := key _ (one (.own i xs) h)
      cases z
    | val d =>
      obtain ⟨a, ea, hk⟩ := key _ (one d h)
      subst ea
      obtain ⟨v, z1, z2⟩ := f.e.val i _ q0
      have z3 : v = .int a := int_of (g := g) (c := c) (H := H) z2
      subst z3
      refine ⟨_, z1, LT.mk f.at (PostS.bE f hk fun d S1 v1 H1 c1 _ q f1 h1 => ?_)⟩
      have h1 : PostS g b su W Dn (((binD G (Tk.call G n) .fdiv d (.int 1) S1).bind (binD G (Tk.call G n) bo (.int a))).b ρ (sSet i ρ)) := h1
      rcases fd1 (cl := Tk.call G n) hf d S1 with ⟨j, rfl, e1⟩ | e1
      · rw [e1] at h1
        have h1 : PostS g b su W Dn ((binD G (Tk.call G n) bo (.int a) (.int j) S1).b ρ (sSet i ρ)) := h1
        rw [hb] at h1
        refine ⟨a, j, rfl, int_of q.r, ?_⟩
        exact h1 c1 H1 o _ (f1.set (d := .int (f0 a j)) (by rw [Rep]))
      · rw [e1] at h1; exact h1.elim
/-! ### items of own lists -/
def rGetL : V → V → Hp → VK → Prop := fun o i H Q => ∃ p xs k v, o = .ref p ∧ i = .int k ∧ 0 ≤ k ∧ H p = some (.lst xs) ∧ xs[k.toNat]? = some v ∧ Q v H
theorem get_list : PGet X rGetL := by
  rintro pins s σ H o i ov iv Q I ro ri ⟨p, xs, k, v, rfl, rfl, h0, hp, hx, q⟩
  cases ro
  obtain ⟨t, rfl⟩ := ri
  obtain ⟨its, r, pl, hz⟩ := I.list (.inl (.inl hp))
  obtain ⟨w, ew, rw'⟩ := r.get hx
  have hn := line63
  have hk : k.toNat < xs.length := by
    rcases Nat.lt_or_ge k.toNat xs.length with h | h
    · exact h
    · rw [List.getElem?_eq_none h] at hx; cases hx
  exact getItem_listL pl.isList h0 (by omega) ew ⟨v, H, I, rw', q⟩
/-- an index that reads names alone -/
abbrev kkE (a : Nat) (m : Int) : CE := .bin .mod (.blt .int (.cons (.var a) .nil)) (.int m)
theorem kk_pure (a : Nat) {m : Int} (hm : 0 < m) (ρ : Ev) : (∃ z, 0 ≤ z ∧ ∀ S, evE G cl (kkE a m) ρ S = .ok (.int z) S) ∨ ∀ S, evE G cl (kkE a m) ρ S = .bad := by
  have e1 : ∀ S, evE G cl (kkE a m) ρ S = ((((varD a S ρ[a]?).bind (kCons (evEs G cl .nil ρ))).bind (btD .int)).bind (kBin G cl .mod (evE G cl (.int m) ρ))) := by
    intro S
    rw [evE, evE, evEs, evE]
  have e2 : ∀ d S, kBin G cl .mod (evE G cl (.int m) ρ) d S = binD G cl .mod d (.int m) S := by
    intro d S
    show ((evE G cl (.int m) ρ S).bind _) = _
    rw [evE]; rfl
  have e3 : ∀ d S, kCons (evEs G cl .nil ρ) d S = .ok [d] S := by
    intro d S
    show ((evEs G cl .nil ρ S).bind _) = _
    rw [evEs]; rfl
  have nn : ∀ i : Int, 0 ≤ i.fmod m := by
    intro i
    rw [Int.fmod_eq_emod_of_nonneg _ (by omega)]
    exact Int.emod_nonneg _ (by omega)
  have go : ∀ d : D, (∃ z, 0 ≤ z ∧ ∀ S, (((R.ok d S : R D).bind (kCons (evEs G cl .nil ρ))).bind (btD .int)).bind (kBin G cl .mod (evE G cl (.int m) ρ)) = .ok (.int z) S) ∨ ∀ S, (((R.ok d S : R D).bind (kCons (evEs G cl .nil ρ))).bind (btD .int)).bind (kBin G cl .mod (evE G cl (.int m) ρ)) = .bad := by
    intro d
    have e4 : ∀ S, (((R.ok d S : R D).bind (kCons (evEs G cl .nil ρ))).bind (btD .int)).bind (kBin G cl .mod (evE G cl (.int m) ρ)) = (btD .int [d] S).bind fun x S => binD G cl .mod x (.int m) S := by
      intro S
      show ((kCons (evEs G cl .nil ρ) d S).bind (btD .int)).bind _ = _
      rw [e3]
      show (btD .int [d] S).bind _ = _
      congr 1
    have e5 : ∀ (i : Int) S, binD G cl .mod (.int i) (.int m) S = .ok (.int (i.fmod m)) S := by
      intro i S
      show (if m ≠ 0 then R.ok (D.int (i.fmod m)) S else .bad) = _
      rw [if_pos (by omega)]
    cases d with
    | int i => exact .inl ⟨i.fmod m, nn i, fun S => by rw [e4]; exact e5 i S⟩
    | bl w => exact .inl ⟨(if w then 1 else 0 : Int).fmod m, nn _, fun S => by rw [e4]; exact e5 _ S⟩
    | _ => exact .inr fun S => by rw [e4]; rfl
  cases q : ρ[a]? with
  | none => exact .inr fun S => by rw [e1, q]; rfl
  | some s =>
    cases s with
    | emp => exact .inr fun S => by rw [e1, q]; rfl
    | val d => exact (go d).imp (fun ⟨z, h0, h⟩ => ⟨z, h0, fun S => by rw [e1, q]; exact h S⟩) fun h S => by rw [e1, q]; exact h S
    | own xs => exact (go (.own a xs)).imp (fun ⟨z, h0, h⟩ => ⟨z, h0, fun S => by rw [e1, q]; exact h S⟩) fun h S => by rw [e1, q]; exact h S
    | exc k fs => exact (go (.exn k fs)).imp (fun ⟨z, h0, h⟩ => ⟨z, h0, fun S => by rw [e1, q]; exact h S⟩) fun h S => by rw [e1, q]; exact h S
/-- name[k] += e, the list being the body's own -/
theorem s_augO (C : Cok G g n cm su X W) {ce : CE} {k : Expr} {i a : Nat} {m : Int} {bo : Bi} {op : Operator} (hf : noFd G = true) (hm0 : 0 < m) (hN : X.N[i]? = some x) (hv : visB X.env.scope x = true) (hm : nmOk x = true) (hop : ipOk bo op = true)
    (ha : ∀ ov iv new, augStore k ov iv new = (do holding [new, ov, iv] (setItem ov iv new); release [new, ov, iv] []; pure .next))
    (hk : PE X k (LT g su W (evE G (Tk.call G n) (kkE a m)))) (he : PE X e (LT g su W (evE G (Tk.call G n) ce))) :
    PS X (.AugAssign (.Subscript (.Name x p2) k p1) op e pos) (LSt g b su W (evS G (Tk.call G n) (.setiO i (kkE a m) (.bin bo (.bin .fdiv (.ix (.var i) (kkE a m)) (.int 1)) (.bin .fdiv ce (.int 1)))))) := by
  obtain ⟨f0, ip, hb⟩ := ip_of (G := G) (cl := Tk.call G n) (X := X) hop
  refine PS.imp (ps_augS (pe_var (i := i) hN (vis_of hv) (nm_of hm).1 (nm_of hm).2) hk get_list he ip set_list ha) fun Dn σ H h => ?_
  obtain ⟨c, S, ρ, o, f, h⟩ := h
  rw [evS] at h
  cases q0 : ρ[i]? with
  | none => rw [q0] at h; exact h.elim
  | some s =>
    rw [q0] at h
    cases s with
    | emp => exact h.elim
    | val d => exact h.elim
    | exc k fs => exact h.elim
    | own xs =>
      obtain ⟨A, vs, h1, h3, h5, h6⟩ := f.e.own i xs q0
      have h : PostS g b su W Dn ((evE G (Tk.call G n) (.bin bo (.bin .fdiv (.ix (.var i) (kkE a m)) (.int 1)) (.bin .fdiv ce (.int 1))) ρ S).b ρ (sItemO i ρ (evE G (Tk.call G n) (kkE a m) ρ))) := h
      have ev : evE G (Tk.call G n) (.bin bo (.bin .fdiv (.ix (.var i) (kkE a m)) (.int 1)) (.bin .fdiv ce (.int 1))) ρ S =
          (((varD i S ρ[i]?).bind (kIx (evE G (Tk.call G n) (kkE a m) ρ))).bind (kBin G (Tk.call G n) .fdiv (evE G (Tk.call G n) (.int 1) ρ))).bind (kBin G (Tk.call G n) bo (evE G (Tk.call G n) (.bin .fdiv ce (.int 1)) ρ)) := by
        rw [evE, evE, evE, evE]
      rw [ev, q0] at h
      rcases kk_pure (G := G) (cl := Tk.call G n) a hm0 ρ with ⟨z, z0, hz⟩ | hz
      · have e1 : ((varD i S (some (.own xs))).bind (kIx (evE G (Tk.call G n) (kkE a m) ρ))) = ixD (.own i xs) (.int z) S := by
          show ((evE G (Tk.call G n) (kkE a m) ρ S).bind (ixD (.own i xs))) = _
          rw [hz]; rfl
        rw [e1] at h
        have e2 : ixD (.own i xs) (.int z) S = match atI xs z with | some d => .ok d S | none => .bad := rfl
        rw [e2] at h
        cases q1 : atI xs z with
        | none => rw [q1] at h; exact h.elim
        | some d =>
          rw [q1] at h
          have h : PostS g b su W Dn (((((evE G (Tk.call G n) (.int 1) ρ S).bind (binD G (Tk.call G n) .fdiv d)).bind (kBin G (Tk.call G n) bo (evE G (Tk.call G n) (.bin .fdiv ce (.int 1)) ρ)))).b ρ (sItemO i ρ (evE G (Tk.call G n) (kkE a m) ρ))) := h
          rw [evE] at h
          have h : PostS g b su W Dn (((binD G (Tk.call G n) .fdiv d (.int 1) S).bind (kBin G (Tk.call G n) bo (evE G (Tk.call G n) (.bin .fdiv ce (.int 1)) ρ))).b ρ (sItemO i ρ (evE G (Tk.call G n) (kkE a m) ρ))) := h
          rcases fd1 (cl := Tk.call G n) hf d S with ⟨av, rfl, e3⟩ | e3
          · rw [e3] at h
            have h : PostS g b su W Dn (((evE G (Tk.call G n) (.bin .fdiv ce (.int 1)) ρ S).bind (binD G (Tk.call G n) bo (.int av))).b ρ (sItemO i ρ (evE G (Tk.call G n) (kkE a m) ρ))) := h
            have h : PostS g b su W Dn ((evE G (Tk.call G n) ce ρ S).b ρ fun y S1 => ((binD G (Tk.call G n) .fdiv y (.int 1) S1).bind (binD G (Tk.call G n) bo (.int av))).b ρ (sItemO i ρ (evE G (Tk.call G n) (kkE a m) ρ))) := by
              rw [evE] at h
              cases q : evE G (Tk.call G n) ce ρ S with
              | ok d S1 =>
                rw [q] at h
                have h : PostS g b su W Dn ((((evE G (Tk.call G n) (.int 1) ρ S1).bind (binD G (Tk.call G n) .fdiv d)).bind (binD G (Tk.call G n) bo (.int av))).b ρ (sItemO i ρ (evE G (Tk.call G n) (kkE a m) ρ))) := h
                rw [evE] at h
                exact h
              | err k fs S1 => rw [q] at h; exact h
              | bad => rw [q] at h; exact h
            refine ⟨.ref A, h1, LT.mk f.at ?_⟩
            rw [hz]
            intro v1 H1 c1 g1
            have f1 := f.go g1.e g1.s
            obtain rfl : v1 = .int z := int_of g1.r
            obtain ⟨A1, vs1, h1', h3', h5', h6'⟩ := f1.e.own i xs q0
            rw [h1] at h1'
            cases h1'
            obtain ⟨w, w1, w2⟩ := atI_reps h6' q1
            have w3 : w = .int av := int_of (g := g) (c := c1) (H := H1) w2
            subst w3
            have w4 : vs1[z.toNat]? = some (.int av) := by
              unfold atI ixN at w1
              rw [if_pos z0] at w1
              by_cases hl : z < (vs1.length : Int)
              · rw [if_pos hl] at w1; exact w1
              · rw [if_neg hl] at w1; cases w1
            refine ⟨A, vs1, z, .int av, rfl, rfl, z0, h5', w4, LT.mk f1.at (PostS.bE f1 h fun d S2 v2 H2 c2 _ q f2 h2 => ?_)⟩
            have h2 : PostS g b su W Dn (((binD G (Tk.call G n) .fdiv d (.int 1) S2).bind (binD G (Tk.call G n) bo (.int av))).b ρ (sItemO i ρ (evE G (Tk.call G n) (kkE a m) ρ))) := h2
            rcases fd1 (cl := Tk.call G n) hf d S2 with ⟨j, rfl, e4⟩ | e4
            · rw [e4] at h2
              have h2 : PostS g b su W Dn ((binD G (Tk.call G n) bo (.int av) (.int j) S2).b ρ (sItemO i ρ (evE G (Tk.call G n) (kkE a m) ρ))) := h2
              rw [hb] at h2
              refine ⟨av, j, rfl, int_of q.r, ?_⟩
              have h2 : PostS g b su W Dn ((evE G (Tk.call G n) (kkE a m) ρ S2).b ρ (sItemO2 i ρ (.int (f0 av j)))) := h2
              rw [hz] at h2
              have h2 : PostS g b su W Dn (stOw ρ S2 i (putD z (.int (f0 av j))) ρ[i]?) := h2
              obtain ⟨A', xs2, vs2, k1, k2, k3, k4, ys, k5, k6⟩ := own_at f2 h2
              rw [h1] at k1
              cases k1
              obtain ⟨j', k7, rfl⟩ := putD_some k5
              have hd : Rep g c2 H2 (.int (f0 av j)) (.int (f0 av j)) := by rw [Rep]
              exact ⟨A, vs2, z, j', rfl, rfl, k2, by rw [k4.length]; exact k7, k6 _ (k4.set hd)⟩
            · rw [e4] at h2; exact h2.elim
          · rw [e3] at h; exact h.elim
      · have e1 : ((varD i S (some (.own xs))).bind (kIx (evE G (Tk.call G n) (kkE a m) ρ))) = .bad := by
          show ((evE G (Tk.call G n) (kkE a m) ρ S).bind (ixD (.own i xs))) = _
          rw [hz]; rfl
        rw [e1] at h; exact h.elim
theorem bnil (o : O) : o.bind (evB G cl .nil) = o := by
  cases o with
  | next ρ S => show evB G cl .nil ρ S = _; rw [evB]
  | _ => rfl
theorem clr_ne {nm : Option Nat} {r : O} {k : Nat} {fs : List D} {ρ : Ev} {S : Sto} : clr nm r ≠ .err k fs ρ S := by
  intro z
  cases r with
  | next ρ S => simp only [clr, nxC] at z; split at z <;> cases z
  | brk ρ S => simp only [clr, nxC] at z; split at z <;> cases z
  | cont ρ S => simp only [clr, nxC] at z; split at z <;> cases z
  | ret d S => simp only [clr] at z; split at z <;> cases z
  | err k fs ρ S => cases z
  | bad => cases z
/-- two clauses that bind: a try in a try -/
theorem s_try_two {sc : Scope} {x1 x2 m1 m2 : Str} {body u1 u2 : List Stmt} {b1 b2 : Stmt} {np1 np2 q1 q2 : Pos} {d1 d2 : ClsT} (C : Cok G g n cm none X W) (K : Sok sc X) {cb hh1 hh2 : CB} {k1 k2 i1 i2 : Nat}
    (h1 : X.N[i1]? = some m1) (h2 : X.N[i2]? = some m2) (l1 : X.env.kindOf m1 = some .local) (l2 : X.env.kindOf m2 = some .local) (g1 : glB X.env.scope x1 = true) (g2 : glB X.env.scope x2 = true) (n1 : nmOk x1 = true) (n2 : nmOk x2 = true)
    (e1 : G.clss[k1]? = some d1) (e2 : G.clss[k2]? = some d2) (c1 : d1.name = x1) (c2 : d2.name = x2)
    (hb : ∀ (W : WX) (pn : List (Addr × Obj)) (xe : Value → Shared → Prop), Takes (X.tr pn xe) W → PassesOwn (model X.prog X.w) X.A X.env xe → ∀ b, PSs (X.tr pn xe) body (LSt g b none W (evB G (Tk.call G n) cb)))
    (s1 : ∀ (a : Addr) (oe : Obj) (cls : Value) (d : Option Addr) (pn : List (Addr × Obj)), Zc cls d oe → (∃ vs, oe.data = .fields vs) → ∀ b, PSs (X.suite a ((a, oe) :: pn)) (b1 :: u1) (LSt g b (some (a, cls, d)) noW (evB G (Tk.call G n) hh1)))
    (s2 : ∀ (a : Addr) (oe : Obj) (cls : Value) (d : Option Addr) (pn : List (Addr × Obj)), Zc cls d oe → (∃ vs, oe.data = .fields vs) → ∀ b, PSs (X.suite a ((a, oe) :: pn)) (b2 :: u2) (LSt g b (some (a, cls, d)) noW (evB G (Tk.call G n) hh2))) :
    PS X (.Try body [.ExceptHandler (some (.Name x1 np1)) (some m1) (b1 :: u1) q1, .ExceptHandler (some (.Name x2 np2)) (some m2) (b2 :: u2) q2] [] [] pos)
      (LSt g b none W (evS G (Tk.call G n) (.try_ (.cons (.try_ cb k1 (some i1) hh1) .nil) k2 (some i2) hh2))) := by
  have mg1 := C.st.mgc k1 d1 e1
  have mg2 := C.st.mgc k2 d2 e2
  rw [c1] at mg1
  rw [c2] at mg2
  refine PS.imp (ps_try_two K.st K.fr C.nd h1 h2 l1 l2 ⟨gl_of g1, (nm_of n1).1, .inl mg1⟩ ⟨gl_of g2, (nm_of n2).1, .inl mg2⟩ C.tk (tb := fun W' => LSt g b none W' (evB G (Tk.call G n) cb))
    (t1 := fun a cls d Dn σ H => ∃ b, LSt g b (some (a, cls, d)) noW (evB G (Tk.call G n) hh1) Dn σ H) (t2 := fun a cls d Dn σ H => ∃ b, LSt g b (some (a, cls, d)) noW (evB G (Tk.call G n) hh2) Dn σ H)
    (fun W' pn xe t p => hb W' pn xe t p b) (fun a oe cls d pn z w => PSs.sem fun Dn σ H ⟨b, h⟩ => ⟨_, s1 a oe cls d pn z w b, h⟩) (fun a oe cls d pn z w => PSs.sem fun Dn σ H ⟨b, h⟩ => ⟨_, s2 a oe cls d pn z w b, h⟩)) fun Dn σ H h => ?_
  obtain ⟨c, S, ρ, o, f, h⟩ := h
  have ev : evS G (Tk.call G n) (.try_ (.cons (.try_ cb k1 (some i1) hh1) .nil) k2 (some i2) hh2) ρ S = sTry G k2 (some i2) (evB G (Tk.call G n) hh2) (sTry G k1 (some i1) (evB G (Tk.call G n) hh1) (evB G (Tk.call G n) cb ρ S)) := by
    rw [evS, evB, evS, bnil]
  rw [ev] at h
  refine ⟨c, S, ρ, o, f, ?_⟩
  cases q : evB G (Tk.call G n) cb ρ S with
  | err k fs ρ1 S1 =>
    rw [q] at h
    intro cc H1 o1 σ1 dx f1 hx
    by_cases xk : (G.exc? k && G.exc? k1) = false
    · have z : sTry G k1 (some i1) (evB G (Tk.call G n) hh1) (.err k fs ρ1 S1) = .bad := by
        show (if (G.exc? k && G.exc? k1) = false then O.bad else _) = _
        rw [if_pos xk]
      rw [z] at h
      exact h.elim
    · have xk' := xk
      rw [Bool.not_eq_false, Bool.and_eq_true] at xk'
      have z : sTry G k1 (some i1) (evB G (Tk.call G n) hh1) (.err k fs ρ1 S1) = if G.subB k k1 then clr (some i1) (evB G (Tk.call G n) hh1 (hdlE (some i1) k fs ρ1) S1) else .err k fs ρ1 S1 := by
        show (if (G.exc? k && G.exc? k1) = false then O.bad else _) = _
        rw [if_neg xk]
      rw [z] at h
      have ex := C.st.exm k k1 xk'.1 xk'.2
      rw [C.K] at ex
      refine ⟨G.subB k k1, ex, fun hb' a na => ?_, fun hb' => ?_⟩
      · rw [hb', if_pos rfl] at h
        have keep : ∀ r : O, (∀ k fs ρ S, r ≠ .err k fs ρ S) → sTry G k2 (some i2) (evB G (Tk.call G n) hh2) r = r := by
          intro r hr
          cases r with
          | err k fs ρ S => exact absurd rfl (hr k fs ρ S)
          | _ => rfl
        rw [keep _ fun _ _ _ _ => clr_ne] at h
        refine ⟨⟨cc.with (some (a, .ref (g.ca k), dx)), H1, o1.map (·.2)⟩, cc.with (some (a, .ref (g.ca k), dx)), S1, ρ1.set i1 (.exc k fs), o1, f1.enter hx i1, ?_⟩
        exact suite_post f1 h (fun {c2 H2 S2 o2 σ2 ρ2} f2 hx => ⟨c2.with none, σ2.set i1 none, f1.leave (f2.dropF i1) hx, id, id, id⟩) fun _ _ z => z
      · rw [hb', if_neg Bool.false_ne_true] at h
        obtain ⟨y1, y2, h⟩ := sTry_err h
        have ex := C.st.exm k k2 y1 y2
        rw [C.K] at ex
        refine ⟨G.subB k k2, ex, fun hb2 a na => ?_, fun hb2 => ?_⟩
        · rw [hb2, if_pos rfl] at h
          refine ⟨⟨cc.with (some (a, .ref (g.ca k), dx)), H1, o1.map (·.2)⟩, cc.with (some (a, .ref (g.ca k), dx)), S1, ρ1.set i2 (.exc k fs), o1, f1.enter hx i2, ?_⟩
          exact suite_post f1 h (fun {c2 H2 S2 o2 σ2 ρ2} f2 hx => ⟨c2.with none, σ2.set i2 none, f1.leave (f2.dropF i2) hx, id, id, id⟩) fun _ _ z => z
        · rw [hb2, if_neg Bool.false_ne_true] at h
          exact h cc H1 o1 σ1 dx f1 hx
  | next ρ1 S1 => rw [q] at h; exact h
  | ret d S1 => rw [q] at h; exact h
  | brk ρ1 S1 => rw [q] at h; exact h
  | cont ρ1 S1 => rw [q] at h; exact h
  | bad => rw [q] at h; exact h
end
end Tk
/-! Core 41: name[k] += j, the list being one that was handed. -/
namespace Tk
open PySem PySem.Spec PyProof.Rows L2
section
variable {G : Prog} {g : Wd} {n : Nat} {cm : Bool} {su : Su} {X : Cx} {W : WX} {b : Bs} {c c' c1 c2 : Ct} {H H' H1 H2 : Hp} {S S' S1 S2 : Sto} {ρ ρ' ρ2 : Ev} {o o' o2 : List (Nat × Addr)} {σ σ' σ2 : L2.St} {e : Expr} {pos p1 p2 : Pos} {x : Str} {Dn : Ends} {cl : Cl}
theorem s_augI (C : Cok G g n cm su X W) {k : Expr} {i : Nat} {z j : Int} {bo : Bi} {op : Operator} (hf : noFd G = true) (hz0 : 0 ≤ z) (hN : X.N[i]? = some x) (hv : visB X.env.scope x = true) (hm : nmOk x = true) (hop : ipOk bo op = true)
    (ha : ∀ ov iv new, augStore k ov iv new = (do holding [new, ov, iv] (setItem ov iv new); release [new, ov, iv] []; pure .next))
    (hk : PE X k (LT g su W (evE G (Tk.call G n) (.int z)))) (he : PE X e (LT g su W (evE G (Tk.call G n) (.int j)))) :
    PS X (.AugAssign (.Subscript (.Name x p2) k p1) op e pos) (LSt g b su W (evS G (Tk.call G n) (.seti (.var i) (.int z) (.bin bo (.bin .fdiv (.ix (.var i) (.int z)) (.int 1)) (.int j))))) := by
  obtain ⟨f0, ip, hb⟩ := ip_of (G := G) (cl := Tk.call G n) (X := X) hop
  refine PS.imp (ps_augS (pe_var (i := i) hN (vis_of hv) (nm_of hm).1 (nm_of hm).2) hk get_list he ip set_list ha) fun Dn σ H h => ?_
  obtain ⟨c, S, ρ, o, f, h⟩ := h
  rw [evS] at h
  have e0 : ∀ S, evE G (Tk.call G n) (.int z) ρ S = .ok (.int z) S := fun S => by rw [evE]
  have ej : ∀ S, evE G (Tk.call G n) (.int j) ρ S = .ok (.int j) S := fun S => by rw [evE]
  have e1' : ∀ S, evE G (Tk.call G n) (.int 1) ρ S = .ok (.int 1) S := fun S => by rw [evE]
  have ev : ∀ S, evE G (Tk.call G n) (.var i) ρ S = varD i S ρ[i]? := fun S => by rw [evE]
  have eE : evE G (Tk.call G n) (.bin bo (.bin .fdiv (.ix (.var i) (.int z)) (.int 1)) (.int j)) ρ S =
      ((((varD i S ρ[i]?).bind (kIx (evE G (Tk.call G n) (.int z) ρ))).bind (kBin G (Tk.call G n) .fdiv (evE G (Tk.call G n) (.int 1) ρ))).bind (kBin G (Tk.call G n) bo (evE G (Tk.call G n) (.int j) ρ))) := by
    rw [evE, evE, evE, evE]
  rw [eE] at h
  have main : ∀ d, varD i S ρ[i]? = .ok d S → ∃ xs a, seqOf S d = some xs ∧ atI xs z = some (.int a) ∧ PostS g b su W Dn (storD ρ S (putD z (.int (f0 a j))) d) := by
    intro d hvd
    rw [hvd] at h
    have k1 : ((R.ok d S : R D).bind (kIx (evE G (Tk.call G n) (.int z) ρ))) = ixD d (.int z) S := by
      show ((evE G (Tk.call G n) (.int z) ρ S).bind (ixD d)) = _
      rw [e0]; rfl
    have k2 : ixD d (.int z) S = match seqOf S d with | some xs => (match atI xs z with | some y => .ok y S | none => .bad) | none => .bad := by
      unfold ixD
      cases seqOf S d <;> rfl
    rw [k1, k2] at h
    cases q : seqOf S d with
    | none => rw [q] at h; exact h.elim
    | some xs =>
      rw [q] at h
      dsimp only at h
      cases q1 : atI xs z with
      | none => rw [q1] at h; exact h.elim
      | some y =>
        rw [q1] at h
        have h : PostS g b su W Dn ((((evE G (Tk.call G n) (.int 1) ρ S).bind (binD G (Tk.call G n) .fdiv y)).bind (kBin G (Tk.call G n) bo (evE G (Tk.call G n) (.int j) ρ))).b ρ (sItem ρ (evE G (Tk.call G n) (.var i) ρ) (evE G (Tk.call G n) (.int z) ρ))) := h
        rw [e1'] at h
        have h : PostS g b su W Dn (((binD G (Tk.call G n) .fdiv y (.int 1) S).bind (kBin G (Tk.call G n) bo (evE G (Tk.call G n) (.int j) ρ))).b ρ (sItem ρ (evE G (Tk.call G n) (.var i) ρ) (evE G (Tk.call G n) (.int z) ρ))) := h
        rcases fd1 (cl := Tk.call G n) hf y S with ⟨a, rfl, e3⟩ | e3
        · rw [e3] at h
          have h : PostS g b su W Dn (((evE G (Tk.call G n) (.int j) ρ S).bind (binD G (Tk.call G n) bo (.int a))).b ρ (sItem ρ (evE G (Tk.call G n) (.var i) ρ) (evE G (Tk.call G n) (.int z) ρ))) := h
          rw [ej] at h
          have h : PostS g b su W Dn ((binD G (Tk.call G n) bo (.int a) (.int j) S).b ρ (sItem ρ (evE G (Tk.call G n) (.var i) ρ) (evE G (Tk.call G n) (.int z) ρ))) := h
          rw [hb] at h
          have h : PostS g b su W Dn ((evE G (Tk.call G n) (.var i) ρ S).b ρ (sItem2 ρ (evE G (Tk.call G n) (.int z) ρ) (.int (f0 a j)))) := h
          rw [ev, hvd] at h
          have h : PostS g b su W Dn ((evE G (Tk.call G n) (.int z) ρ S).b ρ (sItem3 ρ (.int (f0 a j)) d)) := h
          rw [e0] at h
          have h : PostS g b su W Dn (if still (.int (f0 a j)) = true then storD ρ S (putD z (.int (f0 a j))) d else .bad) := h
          rw [if_pos (show still (.int (f0 a j)) = true from rfl)] at h
          exact ⟨xs, a, rfl, q1, h⟩
        · rw [e3] at h; exact h.elim
  cases q0 : ρ[i]? with
  | none => rw [q0] at h; exact h.elim
  | some s =>
    cases s with
    | emp => rw [q0] at h; exact h.elim
    | exc k fs =>
      obtain ⟨_, _, _, _, w⟩ := main (.exn k fs) (by rw [q0]; rfl)
      exact w.elim
    | own xs =>
      obtain ⟨_, _, _, _, w⟩ := main (.own i xs) (by rw [q0]; rfl)
      exact w.elim
    | val d =>
      obtain ⟨xs, a, h1, h2, h3⟩ := main d (by rw [q0]; rfl)
      cases d with
      | loc l =>
        obtain ⟨v, z1, z2⟩ := f.e.val i _ q0
        rw [Rep] at z2
        obtain ⟨p, rfl, hp⟩ := z2
        refine ⟨.ref p, z1, LT.mk f.at ?_⟩
        rw [e0]
        intro v1 H1 c1 g1
        have f1 := f.go g1.e g1.s
        obtain rfl : v1 = .int z := int_of g1.r
        have hp1 := g1.e.cy.loc l p hp
        obtain ⟨ce, k1, k2⟩ := f1.s.at hp1
        have k3 : S[l]? = some (.lst xs) := by
          have h1 : (match S[l]? with | some (.lst xs) => some xs | _ => none) = some xs := h1
          split at h1
          · rename_i q; rw [q]; cases h1; rfl
          · cases h1
        rw [k3] at k1
        cases k1
        obtain ⟨vs1, h5', h6'⟩ := k2
        obtain ⟨w, w1, w2⟩ := atI_reps h6' h2
        have w3 : w = .int a := int_of (g := g) (c := c1) (H := H1) w2
        subst w3
        have w4 : vs1[z.toNat]? = some (.int a) := by
          unfold atI ixN at w1
          rw [if_pos hz0] at w1
          by_cases hl : z < (vs1.length : Int)
          · rw [if_pos hl] at w1; exact w1
          · rw [if_neg hl] at w1; cases w1
        refine ⟨p, vs1, z, .int a, rfl, rfl, hz0, h5', w4, LT.mk f1.at ?_⟩
        rw [ej]
        intro v2 H2 c2 g2
        have f2 := f1.go g2.e g2.s
        refine ⟨a, j, rfl, int_of g2.r, ?_⟩
        obtain ⟨xs2, vs2, k3, k4, ys, k5, k6⟩ := app_cell f2 (g2.e.cy.loc l p hp1) h3
        obtain ⟨j', k7, rfl⟩ := putD_some k5
        have hd : Rep g c2 H2 (.int (f0 a j)) (.int (f0 a j)) := by rw [Rep]
        exact ⟨p, vs2, z, j', rfl, rfl, k3, by rw [k4.length]; exact k7, k6 _ (k4.set hd)⟩
      | _ => exact h3.elim
end
end Tk
/-! Core 42: try with three clauses that bind what they catch. -/
namespace Tk
open PySem PySem.Spec PyProof.Rows L2
section
variable {X : Cx} {x1 x2 x3 m1 m2 m3 : Str} {c1 c2 c3 : Value} {i1 i2 i3 : Nat} {body u1 u2 u3 : List Stmt} {b1 b2 b3 : Stmt} {np1 np2 np3 p1 p2 p3 pos : Pos} {tb : WX → TS} {t1 t2 t3 : Addr → Value → Option Addr → TS} {Wo : WX}
def wThree (K : PySem.W.Frag) (c1 c2 c3 : Value) (i1 i2 i3 : Nat) (t1 t2 t3 : Addr → Value → Option Addr → TS) (Wo : WX) (D : Ends) : WX := wAs K c1 i1 t1 (wAs K c2 i2 t2 (wAs K c3 i3 t3 Wo D) D) D
theorem ps_try_three (hs : X.stack = X.env :: X.outer) (hf : X.env.frame = some X.env.locals) (hN : X.N.Nodup) (h1 : X.N[i1]? = some m1) (h2 : X.N[i2]? = some m2) (h3 : X.N[i3]? = some m3) (l1 : X.env.kindOf m1 = some .local) (l2 : X.env.kindOf m2 = some .local) (l3 : X.env.kindOf m3 = some .local)
    (n1 : Names X x1 c1) (n2 : Names X x2 c2) (n3 : Names X x3 c3) (tk : Takes X Wo)
    (hb : ∀ (W : WX) (pn : List (Addr × Obj)) (xe : Value → Shared → Prop), Takes (X.tr pn xe) W → PassesOwn (model X.prog X.w) X.A X.env xe → PSs (X.tr pn xe) body (tb W))
    (s1 : ∀ (a : Addr) (oe : Obj) (cls : Value) (d : Option Addr) (pn : List (Addr × Obj)), Zc cls d oe → (∃ vs, oe.data = .fields vs) → PSs (X.suite a ((a, oe) :: pn)) (b1 :: u1) (t1 a cls d))
    (s2 : ∀ (a : Addr) (oe : Obj) (cls : Value) (d : Option Addr) (pn : List (Addr × Obj)), Zc cls d oe → (∃ vs, oe.data = .fields vs) → PSs (X.suite a ((a, oe) :: pn)) (b2 :: u2) (t2 a cls d))
    (s3 : ∀ (a : Addr) (oe : Obj) (cls : Value) (d : Option Addr) (pn : List (Addr × Obj)), Zc cls d oe → (∃ vs, oe.data = .fields vs) → PSs (X.suite a ((a, oe) :: pn)) (b3 :: u3) (t3 a cls d)) :
    PS X (.Try body [.ExceptHandler (some (.Name x1 np1)) (some m1) (b1 :: u1) p1, .ExceptHandler (some (.Name x2 np2)) (some m2) (b2 :: u2) p2, .ExceptHandler (some (.Name x3 np3)) (some m3) (b3 :: u3) p3] [] [] pos)
      (fun D σ H => tb (wThree X.K c1 c2 c3 i1 i2 i3 t1 t2 t3 Wo D) D σ H) := by
  constructor
  intro pins s σ H D I h
  have ok := I.ok
  have fr : X.A.frames = some (X.env :: X.outer) := by rw [ok.frames, hs]
  apply wpAny_Try_except
  let hds : List ExceptHandler := [.ExceptHandler (some (.Name x1 np1)) (some m1) (b1 :: u1) p1, .ExceptHandler (some (.Name x2 np2)) (some m2) (b2 :: u2) p2, .ExceptHandler (some (.Name x3 np3)) (some m3) (b3 :: u3) p3]
  let xe' : Value → Shared → Prop := fun e z1 => wpAny (model X.prog X.w) X.A (noteFrame e X.env)
    (fun _ z2 => wpAny (model X.prog X.w) X.A (setFlight e none) (fun _ z3 => wpAny (model X.prog X.w) X.A (handleBy e X.env hds) (SP X pins D) X.xe z3) X.xe z2) X.xe z1
  have tk' : Takes (X.tr (X.pn ++ pins) xe') (wThree X.K c1 c2 c3 i1 i2 i3 t1 t2 t3 Wo D) := by
    rintro u s' ⟨a, B, sI, pins', σ', H', cls, d, rfl, J', nb, up, sky, na, os, ag, v1, q1, y1, w1⟩
    have J : Inv X pins σ' H' sI := J'.ofTry ok
    have sky2 : Sky B (X.env :: X.outer) a (Zc cls d) X.env.locals s'.heap := by rw [← hs]; exact sky
    show wpAny (model X.prog X.w) X.A (noteFrame (.ref a) X.env) _ _ s'
    apply Sky.land Zc.steady fr hf sky2
    intro hp3 f3 u3
    have g : Gnd X B a cls d pins σ' H' sI s' hp3 := ⟨J, nb, up.trans u3, f3, na, os, ag⟩
    refine g.clause ok hf hN h1 l1 n1 q1 (fun oe z k => s1 a oe cls d _ z k) (fun e => y1 e a na) fun e => ?_
    obtain ⟨v2, q2, y2, w2⟩ := w1 e
    refine g.clause ok hf hN h2 l2 n2 q2 (fun oe z k => s2 a oe cls d _ z k) (fun e => y2 e a na) fun e => ?_
    obtain ⟨v3, q3, y3, w3⟩ := w2 e
    exact g.clause ok hf hN h3 l3 n3 q3 (fun oe z k => s3 a oe cls d _ z k) (fun e => y3 e a na) fun e => g.past hs hf tk (w3 e)
  refine wpAny_mono ((hb _ (X.pn ++ pins) xe' tk' PassesOwn.looking).run [] s σ H D (I.toTry _) h) ?_ (fun _ _ z => z)
  intro f s6 o
  cases f with
  | ret u => exact let ⟨v, τ, K, I6, r, q⟩ := o; ⟨v, τ, K, I6.ofTry ok, r, q⟩
  | next => exact let ⟨τ, K, I6, q⟩ := o; wpAny_execs_nil ⟨τ, K, I6.ofTry ok, q⟩
  | brk => exact let ⟨τ, K, I6, q⟩ := o; ⟨τ, K, I6.ofTry ok, q⟩
  | cont => exact let ⟨τ, K, I6, q⟩ := o; ⟨τ, K, I6.ofTry ok, q⟩
end
section
variable {G : Prog} {g : Wd} {n : Nat} {cm : Bool} {su : Su} {X : Cx} {W : WX} {b : Bs} {c c' c1 c2 : Ct} {H H' H1 H2 : Hp} {S S' S1 S2 : Sto} {ρ ρ' ρ2 : Ev} {o o' o2 : List (Nat × Addr)} {σ σ' σ2 : L2.St} {Q : VK} {e t a : Expr} {pos p1 p2 apos : Pos} {x : Str} {Dn : Ends} {st : Stmt} {sts : List Stmt} {A : Addr} {cl : Cl}
theorem s_try_three {sc : Scope} {x1 x2 x3 m1 m2 m3 : Str} {body u1 u2 u3 : List Stmt} {b1 b2 b3 : Stmt} {np1 np2 np3 q1 q2 q3 : Pos} {d1 d2 d3 : ClsT} (C : Cok G g n cm none X W) (K : Sok sc X) {cb hh1 hh2 hh3 : CB} {k1 k2 k3 i1 i2 i3 : Nat}
    (h1 : X.N[i1]? = some m1) (h2 : X.N[i2]? = some m2) (h3 : X.N[i3]? = some m3) (l1 : X.env.kindOf m1 = some .local) (l2 : X.env.kindOf m2 = some .local) (l3 : X.env.kindOf m3 = some .local) (g1 : glB X.env.scope x1 = true) (g2 : glB X.env.scope x2 = true) (g3 : glB X.env.scope x3 = true) (n1 : nmOk x1 = true) (n2 : nmOk x2 = true) (n3 : nmOk x3 = true)
    (e1 : G.clss[k1]? = some d1) (e2 : G.clss[k2]? = some d2) (e3 : G.clss[k3]? = some d3) (c1 : d1.name = x1) (c2 : d2.name = x2) (c3 : d3.name = x3)
    (hb : ∀ (W : WX) (pn : List (Addr × Obj)) (xe : Value → Shared → Prop), Takes (X.tr pn xe) W → PassesOwn (model X.prog X.w) X.A X.env xe → ∀ b, PSs (X.tr pn xe) body (LSt g b none W (evB G (Tk.call G n) cb)))
    (s1 : ∀ (a : Addr) (oe : Obj) (cls : Value) (d : Option Addr) (pn : List (Addr × Obj)), Zc cls d oe → (∃ vs, oe.data = .fields vs) → ∀ b, PSs (X.suite a ((a, oe) :: pn)) (b1 :: u1) (LSt g b (some (a, cls, d)) noW (evB G (Tk.call G n) hh1)))
    (s2 : ∀ (a : Addr) (oe : Obj) (cls : Value) (d : Option Addr) (pn : List (Addr × Obj)), Zc cls d oe → (∃ vs, oe.data = .fields vs) → ∀ b, PSs (X.suite a ((a, oe) :: pn)) (b2 :: u2) (LSt g b (some (a, cls, d)) noW (evB G (Tk.call G n) hh2)))
    (s3 : ∀ (a : Addr) (oe : Obj) (cls : Value) (d : Option Addr) (pn : List (Addr × Obj)), Zc cls d oe → (∃ vs, oe.data = .fields vs) → ∀ b, PSs (X.suite a ((a, oe) :: pn)) (b3 :: u3) (LSt g b (some (a, cls, d)) noW (evB G (Tk.call G n) hh3))) :
    PS X (.Try body [.ExceptHandler (some (.Name x1 np1)) (some m1) (b1 :: u1) q1, .ExceptHandler (some (.Name x2 np2)) (some m2) (b2 :: u2) q2, .ExceptHandler (some (.Name x3 np3)) (some m3) (b3 :: u3) q3] [] [] pos)
      (LSt g b none W (evS G (Tk.call G n) (.try_ (.cons (.try_ (.cons (.try_ cb k1 (some i1) hh1) .nil) k2 (some i2) hh2) .nil) k3 (some i3) hh3))) := by
  have mg1 := C.st.mgc k1 d1 e1
  have mg2 := C.st.mgc k2 d2 e2
  rw [c1] at mg1
  rw [c2] at mg2
  have mg3 := C.st.mgc k3 d3 e3
  rw [c3] at mg3
  refine PS.imp (ps_try_three K.st K.fr C.nd h1 h2 h3 l1 l2 l3 ⟨gl_of g1, (nm_of n1).1, .inl mg1⟩ ⟨gl_of g2, (nm_of n2).1, .inl mg2⟩ ⟨gl_of g3, (nm_of n3).1, .inl mg3⟩ C.tk (tb := fun W' => LSt g b none W' (evB G (Tk.call G n) cb))
    (t1 := fun a cls d Dn σ H => ∃ b, LSt g b (some (a, cls, d)) noW (evB G (Tk.call G n) hh1) Dn σ H) (t2 := fun a cls d Dn σ H => ∃ b, LSt g b (some (a, cls, d)) noW (evB G (Tk.call G n) hh2) Dn σ H) (t3 := fun a cls d Dn σ H => ∃ b, LSt g b (some (a, cls, d)) noW (evB G (Tk.call G n) hh3) Dn σ H)
    (fun W' pn xe t p => hb W' pn xe t p b) (fun a oe cls d pn z w => PSs.sem fun Dn σ H ⟨b, h⟩ => ⟨_, s1 a oe cls d pn z w b, h⟩) (fun a oe cls d pn z w => PSs.sem fun Dn σ H ⟨b, h⟩ => ⟨_, s2 a oe cls d pn z w b, h⟩) (fun a oe cls d pn z w => PSs.sem fun Dn σ H ⟨b, h⟩ => ⟨_, s3 a oe cls d pn z w b, h⟩)) fun Dn σ H h => ?_
  obtain ⟨c, S, ρ, o, f, h⟩ := h
  have ev : evS G (Tk.call G n) (.try_ (.cons (.try_ (.cons (.try_ cb k1 (some i1) hh1) .nil) k2 (some i2) hh2) .nil) k3 (some i3) hh3) ρ S = sTry G k3 (some i3) (evB G (Tk.call G n) hh3) (sTry G k2 (some i2) (evB G (Tk.call G n) hh2) (sTry G k1 (some i1) (evB G (Tk.call G n) hh1) (evB G (Tk.call G n) cb ρ S))) := by
    rw [evS, evB, evS, evB, evS, bnil, bnil]
  rw [ev] at h
  refine ⟨c, S, ρ, o, f, ?_⟩
  have keep : ∀ (kk ii : Nat) (hh : CB) (r : O), (∀ k fs ρ S, r ≠ .err k fs ρ S) → sTry G kk (some ii) (evB G (Tk.call G n) hh) r = r := by
    intro kk ii hh r hr
    cases r with
    | err k fs ρ S => exact absurd rfl (hr k fs ρ S)
    | _ => rfl
  cases q : evB G (Tk.call G n) cb ρ S with
  | err k fs ρ1 S1 =>
    rw [q] at h
    intro cc H1 o1 σ1 dx f1 hx
    have hit : ∀ {kk ii : Nat} {hh : CB}, (G.exc? k && G.exc? kk) = true → sTry G kk (some ii) (evB G (Tk.call G n) hh) (.err k fs ρ1 S1) = if G.subB k kk then clr (some ii) (evB G (Tk.call G n) hh (hdlE (some ii) k fs ρ1) S1) else .err k fs ρ1 S1 := by
      intro kk ii hh w
      show (if (G.exc? k && G.exc? kk) = false then O.bad else _) = _
      rw [if_neg (by rw [w]; decide)]
    have off : ∀ {kk ii : Nat} {hh : CB}, (G.exc? k && G.exc? kk) = false → sTry G kk (some ii) (evB G (Tk.call G n) hh) (.err k fs ρ1 S1) = .bad := by
      intro kk ii hh w
      show (if (G.exc? k && G.exc? kk) = false then O.bad else _) = _
      rw [if_pos w]
    by_cases xk : (G.exc? k && G.exc? k1) = false
    · rw [off xk] at h
      exact h.elim
    · have xk' := xk
      rw [Bool.not_eq_false] at xk'
      rw [hit xk'] at h
      rw [Bool.and_eq_true] at xk'
      have ex := C.st.exm k k1 xk'.1 xk'.2
      rw [C.K] at ex
      refine ⟨G.subB k k1, ex, fun hb' a na => ?_, fun hb' => ?_⟩
      · rw [hb', if_pos rfl] at h
        rw [keep _ _ _ _ fun _ _ _ _ => clr_ne, keep _ _ _ _ fun _ _ _ _ => clr_ne] at h
        refine ⟨⟨cc.with (some (a, .ref (g.ca k), dx)), H1, o1.map (·.2)⟩, cc.with (some (a, .ref (g.ca k), dx)), S1, ρ1.set i1 (.exc k fs), o1, f1.enter hx i1, ?_⟩
        exact suite_post f1 h (fun {c2 H2 S2 o2 σ2 ρ2} f2 hx => ⟨c2.with none, σ2.set i1 none, f1.leave (f2.dropF i1) hx, id, id, id⟩) fun _ _ z => z
      · rw [hb', if_neg Bool.false_ne_true] at h
        by_cases xl : (G.exc? k && G.exc? k2) = false
        · rw [off xl] at h
          exact h.elim
        · have xl' := xl
          rw [Bool.not_eq_false] at xl'
          rw [hit xl'] at h
          rw [Bool.and_eq_true] at xl'
          have ex := C.st.exm k k2 xl'.1 xl'.2
          rw [C.K] at ex
          refine ⟨G.subB k k2, ex, fun hb2 a na => ?_, fun hb2 => ?_⟩
          · rw [hb2, if_pos rfl] at h
            rw [keep _ _ _ _ fun _ _ _ _ => clr_ne] at h
            refine ⟨⟨cc.with (some (a, .ref (g.ca k), dx)), H1, o1.map (·.2)⟩, cc.with (some (a, .ref (g.ca k), dx)), S1, ρ1.set i2 (.exc k fs), o1, f1.enter hx i2, ?_⟩
            exact suite_post f1 h (fun {c2 H2 S2 o2 σ2 ρ2} f2 hx => ⟨c2.with none, σ2.set i2 none, f1.leave (f2.dropF i2) hx, id, id, id⟩) fun _ _ z => z
          · rw [hb2, if_neg Bool.false_ne_true] at h
            obtain ⟨y1, y2, h⟩ := sTry_err h
            have ex := C.st.exm k k3 y1 y2
            rw [C.K] at ex
            refine ⟨G.subB k k3, ex, fun hb3 a na => ?_, fun hb3 => ?_⟩
            · rw [hb3, if_pos rfl] at h
              refine ⟨⟨cc.with (some (a, .ref (g.ca k), dx)), H1, o1.map (·.2)⟩, cc.with (some (a, .ref (g.ca k), dx)), S1, ρ1.set i3 (.exc k fs), o1, f1.enter hx i3, ?_⟩
              exact suite_post f1 h (fun {c2 H2 S2 o2 σ2 ρ2} f2 hx => ⟨c2.with none, σ2.set i3 none, f1.leave (f2.dropF i3) hx, id, id, id⟩) fun _ _ z => z
            · rw [hb3, if_neg Bool.false_ne_true] at h
              exact h cc H1 o1 σ1 dx f1 hx
  | next ρ1 S1 => rw [q] at h; exact h
  | ret d S1 => rw [q] at h; exact h
  | brk ρ1 S1 => rw [q] at h; exact h
  | cont ρ1 S1 => rw [q] at h; exact h
  | bad => rw [q] at h; exact h
end
end Tk
/-! Core 27: the checker of statements; all statements. -/
namespace Tk
open PySem PySem.Spec PyProof.Rows L2

def notComp : Expr → Bool
  | .ListComp _ _ _ _ => false
  | .SetComp _ _ _ _ => false
  | .DictComp _ _ _ _ _ => false
  | _ => true
def noTup : Expr → Bool
  | .Tuple _ _ _ => false
  | _ => true
/-- no comprehension on the name's own line -/
def asgB (p1 : Pos) : Expr → Bool
  | .ListComp _ _ _ p2 => !(p1.line == p2.line)
  | .SetComp _ _ _ _ => false
  | .DictComp _ _ _ _ _ => false
  | _ => true
def lcB (x : Str) (p1 : Pos) : Expr → Bool
  | .ListComp _ _ s p2 => (p1.line == p2.line) && !(s.names.any fun (n, k) => n == x && (k == .local || k == .cell))
  | _ => false
def CE.isComp : CE → Bool
  | .comp _ _ _ _ _ => true
  | _ => false
def nameB (N : List Str) (sc : Scope) (i : Nat) (x : Str) (e : CE) (p1 : Pos) (v : Expr) : Bool := decide (N[i]? = some x) && locB sc x && (asgB p1 v || (loc1B sc x && e.isComp && lcB x p1 v))
def parB (N : List Str) (sc : Scope) (i j : Nat) (x y : Str) (px py : Pos) (e1 e2 : Expr) : Bool :=
  decide (N[i]? = some x) && decide (N[j]? = some y) && decide (i ≠ j) && decide (x ≠ y) && loc1B sc x && loc1B sc y && (py.line == px.line) && plainX e1 && plainX e2 && !([e1, e2].all (foldedForSure 8)) && !([e1, e2].all (constantsAlone 8))
def excB (G : Prog) (k : Nat) (x : Str) : Bool := match G.clss[k]? with
  | some c => decide (c.name = x) && c.exc && (c.fields.length == 1)
  | none => false
def clB (G : Prog) (k : Nat) (x : Str) : Bool := match G.clss[k]? with
  | some c => decide (c.name = x)
  | none => false
def nmB (N : List Str) (sc : Scope) : Option Nat → Option Str → Bool
  | none, none => true
  | some i, some x => decide (N[i]? = some x) && loc1B sc x
  | _, _ => false

/-- name op= value -/
def augB (G : Prog) (N : List Str) (cm : Bool) (sc : Scope) (i : Nat) (e : CE) (x : Str) (op : Operator) (v : Expr) : Bool := match e with
  | .bin bo (.bin .fdiv (.var i') (.int u)) (.bin .fdiv ce (.int w)) => noFd G && decide (i' = i) && decide (u = 1) && decide (w = 1) && decide (N[i]? = some x) && locB sc x && ipOk bo op && ck G N cm sc ce v
  | _ => false
/-- name[int(other) % m] op= value, the list being the body's own -/
def augOB (G : Prog) (N : List Str) (cm : Bool) (sc : Scope) (j : Nat) (k e : CE) (x : Str) (ix : Expr) (op : Operator) (v : Expr) : Bool := match k, e with
  | .bin .mod (.blt .int (.cons (.var a) .nil)) (.int m), .bin bo (.bin .fdiv (.ix (.var j') (.bin .mod (.blt .int (.cons (.var a') .nil)) (.int m'))) (.int u)) (.bin .fdiv ce (.int w)) =>
    noFd G && decide (j' = j) && decide (a' = a) && decide (m' = m) && decide (u = 1) && decide (w = 1) && decide (0 < m) && decide (N[j]? = some x) && visB sc x && nmOk x && ipOk bo op && ixX ix && ck G N cm sc (kkE a m) ix && ck G N cm sc ce v
  | _, _ => false
/-- name[k] op= number, the list being one that was handed -/
def augIB (G : Prog) (N : List Str) (cm : Bool) (sc : Scope) (i : Nat) (k e : CE) (x : Str) (ix : Expr) (op : Operator) (v : Expr) : Bool := match k, e with
  | .int z, .bin bo (.bin .fdiv (.ix (.var i') (.int z')) (.int u)) (.int j) =>
    noFd G && decide (i' = i) && decide (z' = z) && decide (u = 1) && decide (0 ≤ z) && decide (N[i]? = some x) && visB sc x && nmOk x && ipOk bo op && ixX ix && ck G N cm sc (.int z) ix && ck G N cm sc (.int j) v
  | _, _ => false

mutual
def ckS (G : Prog) (N : List Str) (sc : Scope) : Bool → CS → Stmt → Bool
  | _, .never, _ => true
  | cm, .set i e, .Assign [.Name x p1] v _ => nameB N sc i x e p1 v && ck G N cm sc e v
  | cm, .setO i e, .Assign [.Name x p1] v _ => nameB N sc i x e p1 v && ck G N cm sc e v
  | cm, .setL i e, .Assign [.Name x p1] v _ => nameB N sc i x e p1 v && ck G N cm sc e v
  | cm, .setT is e, .Assign [.Tuple ts k p] v _ => cm && ckT N sc (.tp is) (.Tuple ts k p) && noTup v && ck G N cm sc e v
  | cm, .par i j a b, .Assign [.Tuple [.Name x px, .Name y py] _ _] (.Tuple [e1, e2] _ _) _ => cm && parB N sc i j x y px py e1 e2 && ck G N cm sc a e1 && ck G N cm sc b e2
  | cm, .seta o f e, .Assign [.Attribute a x _] v _ => decide (G.attrs[f]? = some x) && ck G N cm sc o a && ck G N cm sc e v
  | cm, .seti o k e, .Assign [.Subscript a i _] v _ => ixX i && ck G N cm sc o a && ck G N cm sc k i && ck G N cm sc e v
  | cm, .setiO j k e, .Assign [.Subscript (.Name x _) i _] v _ => decide (N[j]? = some x) && visB sc x && nmOk x && ixX i && ck G N cm sc k i && ck G N cm sc e v
  | cm, .app o e, .Expr (.Call (.Attribute a x apos) [v] [] p2) _ => decide (x = ("append" : Str)) && attrB a && plainX v && (apos.endLine == p2.line) && ck G N cm sc o a && ck G N cm sc e v
  | cm, .appO j e, .Expr (.Call (.Attribute (.Name y _) x apos) [v] [] p2) _ => decide (x = ("append" : Str)) && decide (N[j]? = some y) && visB sc y && nmOk y && plainX v && (apos.endLine == p2.line) && ck G N cm sc e v
  | cm, .expr e, .Expr v _ => notComp v && ck G N cm sc e v
  | cm, .ret e, .Return (some v) _ => ck G N cm sc e v
  | _, .retO j, .Return (some (.Name x _)) _ => decide (N[j]? = some x) && visB sc x && nmOk x
  | _, .retN, .Return none _ => true
  | _, .pass, .Pass _ => true
  | _, .pass, .Expr (.Constant (.str _) _ _) _ => true
  | _, .brk, .Break _ => true
  | _, .cont, .Continue _ => true
  | cm, .ite c a b, .If t sa sb _ => tstX t && ck G N cm sc c t && ckB G N sc cm a sa && ckB G N sc cm b sb
  | cm, .for_ tg it b, .For t i body [] _ => cm && ckT N sc tg t && ckI G N cm sc it t i && ckB G N sc cm b body
  | cm, .while_ c b, .While t body [] _ => tstX t && ck G N cm sc c t && ckB G N sc cm b body
  | cm, .raise k es, .Raise (some (.Call (.Name x _) [e] [] _)) none _ => cm && nmOk x && glB sc x && excB G k x && plainX e && cks G N cm sc es [e]
  | cm, .try_ b k nm h, .Try body [.ExceptHandler (some (.Name x _)) nm' (b0 :: suite) _] [] [] _ => cm && nmOk x && glB sc x && clB G k x && nmB N sc nm nm' && ckB G N sc cm b body && ckB G N sc false h (b0 :: suite)
  | cm, .set i e, .AugAssign (.Name x _) op v _ => augB G N cm sc i e x op v
  | cm, .setiO j k e, .AugAssign (.Subscript (.Name x _) ix _) op v _ => augOB G N cm sc j k e x ix op v
  | cm, .seti (.var i) k e, .AugAssign (.Subscript (.Name x _) ix _) op v _ => augIB G N cm sc i k e x ix op v
  | cm, .try_ (.cons (.try_ b k1 (some i1) h1) .nil) k2 (some i2) h2, .Try body [.ExceptHandler (some (.Name x1 _)) (some n1) (b1 :: u1) _, .ExceptHandler (some (.Name x2 _)) (some n2) (b2 :: u2) _] [] [] _ =>
    cm && nmOk x1 && nmOk x2 && glB sc x1 && glB sc x2 && clB G k1 x1 && clB G k2 x2 && nmB N sc (some i1) (some n1) && nmB N sc (some i2) (some n2) && ckB G N sc cm b body && ckB G N sc false h1 (b1 :: u1) && ckB G N sc false h2 (b2 :: u2)
  | cm, .try_ (.cons (.try_ (.cons (.try_ b k1 (some i1) h1) .nil) k2 (some i2) h2) .nil) k3 (some i3) h3, .Try body [.ExceptHandler (some (.Name x1 _)) (some n1) (b1 :: u1) _, .ExceptHandler (some (.Name x2 _)) (some n2) (b2 :: u2) _, .ExceptHandler (some (.Name x3 _)) (some n3) (b3 :: u3) _] [] [] _ =>
    (cm && nmOk x1 && nmOk x2 && nmOk x3) && (glB sc x1 && glB sc x2 && glB sc x3) && (clB G k1 x1 && clB G k2 x2 && clB G k3 x3) && (nmB N sc (some i1) (some n1) && nmB N sc (some i2) (some n2) && nmB N sc (some i3) (some n3)) && (ckB G N sc cm b body && ckB G N sc false h1 (b1 :: u1) && ckB G N sc false h2 (b2 :: u2) && ckB G N sc false h3 (b3 :: u3))
  | _, _, _ => false
def ckB (G : Prog) (N : List Str) (sc : Scope) : Bool → CB → List Stmt → Bool
  | _, .nil, [] => true
  | cm, .cons s r, st :: sts => ckS G N sc cm s st && ckB G N sc cm r sts
  | cm, .frz _ r, sts => ckB G N sc cm r sts
  | _, _, _ => false
end

section
variable {G : Prog} {N : List Str} {sc : Scope} {g : Wd} {n : Nat} {cm : Bool} {su : Su} {X : Cx} {W : WX} {b : Bs} {e v : Expr} {x y : Str} {p p1 p2 pos : Pos} {env : Env} {l : Nat} {t : Option Expr}
theorem sw_no (h : notComp e = true) : swapsWith e t l env = pure false := by cases e <;> first | rfl | cases h
theorem sw_attr {a : Expr} : swapsWith e (some (.Attribute a x p)) l env = pure false := by cases e <;> rfl
theorem sole_tup {ts : List Expr} {k} : swapsWithSole [.Tuple ts k p] e l env = pure false := by cases e <;> rfl
theorem sole_sub {a i : Expr} : swapsWithSole [.Subscript a i p] e l env = pure false := by cases e <;> rfl
theorem st_tup {ts : List Expr} {k} (h : noTup e = true) : swappedStores [.Tuple ts k p] e env = pure none := by cases e <;> first | rfl | cases h
theorem st_sub {a i : Expr} : swappedStores [.Subscript a i p] e env = pure none := by cases e <;> rfl
theorem asg_no (h : asgB p1 e = true) : swapsWith e (some (.Name x p1)) l env = pure false := by
  cases e <;> first | rfl | cases h | skip
  rename_i el gs s p2
  have h : (p1.line == p2.line) = false := by simpa [asgB] using h
  show (pure (env.blockKind == .function && env.kindOf x == some .local && p1.line == p2.line && !(s.names.any fun (n, k) => n == x && (k == .local || k == .cell))) : Sem Bool) = pure false
  rw [h]; simp
theorem loc1_of (h : loc1B sc x = true) : sc.names.lookup x = some .local := by
  unfold loc1B at h
  split at h
  · assumption
  · cases h
theorem scOk_refl : ScOk sc sc := ⟨fun _ h => h, fun _ h => h, fun _ h => h⟩
theorem Sok.m (K : Sok sc X) : ScOk sc X.env.scope := K.vis
theorem Cok.tr (C : Cok G g n cm su X W) {W' : WX} {pn : List (Addr × Obj)} {xe : Value → Shared → Prop} (t : Takes (X.tr pn xe) W') (hs : su = none) : Cok G g n cm su (X.tr pn xe) W' :=
  ⟨C.K, C.nd, t, C.cm, C.st, C.wf, C.calls, C.ex, fun q h => by rw [hs] at h; cases h⟩
theorem Cok.suite (C : Cok G g n cm su X W) {A : Addr} {oe : Obj} {cls : Value} {d : Option Addr} {pn : List (Addr × Obj)} (hz : Zc cls d oe) (hf : ∃ vs, oe.data = .fields vs) : Cok G g n false (some (A, cls, d)) (X.suite A ((A, oe) :: pn)) noW :=
  ⟨C.K, C.nd, fun u s' ⟨a, B, sI, pins, σ, H, cls, d, e, I, nb, up, sky, na, os, ag, w⟩ => w.elim, fun h => (nomatch h), C.st, C.wf, C.calls, C.ex, fun q h => by cases h; exact ⟨X, oe, pn, rfl, hz, hf⟩⟩
theorem Sok.tr (K : Sok sc X) {pn : List (Addr × Obj)} {xe : Value → Shared → Prop} (p : PassesOwn (model X.prog X.w) X.A X.env xe) : Sok sc (X.tr pn xe) := ⟨K.loc, K.vis, p, K.st, K.fr, K.sc, K.kd⟩
theorem Sok.suite (K : Sok sc X) {A : Addr} {pn : List (Addr × Obj)} : Sok sc (X.suite A pn) := ⟨K.loc, K.vis, PassesOwn.never, K.st, K.fr, K.sc, K.kd⟩
/-- what is assigned to a name -/
theorem asg_of (C : Cok G g n cm su X W) (hN : X.N = N) (K : Sok sc X) {i : Nat} {ce : CE} (h : nameB N sc i x ce p1 v = true) (hk : ck G N cm sc ce v = true) :
    ∃ te, PS X (.Assign [.Name x p1] v pos) (tAsg te (gName i)) ∧ ∀ σ H Q, LT g su W (evE G (Tk.call G n) ce) σ H Q → te σ H Q := by
  unfold nameB at h
  simp only [Bool.and_eq_true, Bool.or_eq_true, decide_eq_true_eq] at h
  obtain ⟨⟨h1, h2⟩, h3 | ⟨⟨h3, h4⟩, h5⟩⟩ := h
  · have L := K.loc x h2
    exact ⟨_, ps_set C.nd (by rw [hN]; exact h1) L.1 (all_ok.1 sc ce v hk su X W C hN K.m).1 (asg_no h3) L.2, fun _ _ _ z => z⟩
  · cases ce with
    | comp vs tg it cd el =>
      cases v with
      | ListComp e gs sc1 p2 =>
        have hsw : swapsWith (.ListComp e gs sc1 p2) (some (.Name x p1)) pos.line X.env = pure true := by
          simp only [lcB, Bool.and_eq_true, Bool.not_eq_true'] at h5
          exact sw_true K.kd (by rw [K.sc]; exact loc1_of h3) h5.1 h5.2
        have hk : ∃ t i ifs, gs = [⟨t, i, ifs, 0⟩] ∧ cm = true ∧ blkC N sc sc1 (vs.filterMap fun v => (N[v]?).map fun x => (x, v)) = true ∧ (vs.all fun v => decide (v < N.length)) = true ∧ ((tgIx tg).all fun i => decide (i ∈ vs)) = true ∧ ckT N sc1 tg t = true ∧ ckI G N cm sc it t i = true ∧
            ifB G N cm sc1 cd ifs = true ∧ ck G N cm sc1 el e = true := by
          rcases gs with _ | ⟨⟨t, i, ifs, a⟩, _ | ⟨g2, r⟩⟩
          · rw [ck] at hk
            · cases hk
            all_goals (intros; first | contradiction | (rename_i z; cases z))
          · by_cases ha : a = 0
            · subst ha
              refine ⟨t, i, ifs, rfl, ?_⟩
              rcases ifs with _ | ⟨f, _ | ⟨f2, r⟩⟩
              · rw [ck] at hk; simp only [ifB, Bool.and_eq_true, and_assoc] at hk ⊢; exact hk
              · rw [ck] at hk; simp only [ifB, Bool.and_eq_true, and_assoc] at hk ⊢; exact hk
              · exfalso
                rw [ck] at hk
                · simp at hk
                all_goals (intros; first | contradiction | (rename_i z; cases z))
            · rw [ck] at hk
              · cases hk
              all_goals (intros; simp_all)
          · rw [ck] at hk
            · cases hk
            all_goals (intros; first | contradiction | (rename_i z; cases z))
        obtain ⟨t, i', ifs, rfl, rfl, g2, g3, g4, g5, g6, g7, g8⟩ := hk
        subst hN
        obtain ⟨i1, i2⟩ := all_ok.2.1 sc it t i' g6 su X W C rfl K.m
        refine ⟨_, ps_comp C (own_map g3) (blk_mono (blkOk_by g2) K.m) g4 g5 i2 i1 (cd := cd) (el := el) (fun s H A cl fp => ?_) (fun s H A cl fp => (all_ok.1 sc1 el e g8 su _ noW (C.blk s H sc1 cl A fp) rfl scOk_relabel).1) h1 (by rw [K.sc]; exact loc1_of h3) hsw, comp_imp g4⟩
        rcases ifs with _ | ⟨f, _ | ⟨f2, r⟩⟩
        · have g7 : cd.isNul = true := g7
          refine ⟨fun pins s' σ H' Q I h => pts_nil.run pins s' σ H' Q I ?_⟩
          unfold tstT at h
          rw [g7] at h
          obtain ⟨c, S, ρ, o, hsu, r, re, h⟩ := h
          exact h H' c (E.refl _ _) r
        · have g7 : (tstX f && ck G X.N true sc1 cd f) = true := g7
          rw [Bool.and_eq_true] at g7
          have q := pts_one ((all_ok.1 sc1 cd f g7.2 su _ noW (C.blk s H sc1 cl A fp) rfl scOk_relabel).2 g7.1)
          refine ⟨fun pins s' σ H' Q I h => q.run pins s' σ H' Q I ?_⟩
          unfold tstT at h
          rw [nul_false g7.2] at h
          exact h
        · cases g7
      | _ => cases h5
    | _ => cases h4
theorem par_sw {px py pt : Pos} {kt k2 pt2} {e1 e2 : Expr} {i j : Nat} (hk : env.scope.kind = .function) (hs : env.scope = sc) (h : parB N sc i j x y px py e1 e2 = true) :
    swappedStores [.Tuple [.Name x px, .Name y py] kt pt] (.Tuple [e1, e2] k2 pt2) env = pure (some [x, y]) := by
  unfold parB at h
  simp only [Bool.and_eq_true, decide_eq_true_eq, Bool.not_eq_true'] at h
  obtain ⟨⟨⟨⟨⟨⟨⟨⟨⟨⟨h1, h2⟩, h3⟩, h4⟩, h5⟩, h6⟩, h7⟩, h8⟩, h9⟩, h10⟩, h11⟩ := h
  have kx : env.kindOf x = some .local := by unfold Env.kindOf; rw [hs]; exact loc1_of h5
  have ky : env.kindOf y = some .local := by unfold Env.kindOf; rw [hs]; exact loc1_of h6
  have hb : env.blockKind = .function := by unfold Env.blockKind; rw [hk]; rfl
  have hxy : (y == x) = false := by simpa using fun z => h4 z.symm
  unfold swappedStores
  have hpx : (py.line == px.line) = true := h7
  simp [hb, kx, ky, h10, h11, List.filterMap, hpx, List.eraseDups, List.eraseDupsBy, List.eraseDupsBy.loop, hxy, Expr.pos, -List.all_cons, -List.all_nil, -List.any_cons, -List.any_nil]
  simp [hxy]
  rintro (z | z)
  · cases e1 <;> first | (cases h8; done) | (cases z; done)
  · cases e2 <;> first | (cases h9; done) | (cases z; done)
end
end Tk
/-! Core 28: all statements. -/
namespace Tk
open PySem PySem.Spec PyProof.Rows L2

def SOk (G : Prog) (N : List Str) (sc : Scope) (g : Wd) (n : Nat) (cm : Bool) (cs : CS) (st : Stmt) : Prop := ckS G N sc cm cs st = true → ∀ (su : Su) (X : Cx) (W : WX), Cok G g n cm su X W → X.N = N → Sok sc X → ∀ b, PS X st (LSt g b su W (evS G (Tk.call G n) cs))
def BlOk (G : Prog) (N : List Str) (sc : Scope) (g : Wd) (n : Nat) (cm : Bool) (cb : CB) (sts : List Stmt) : Prop := ckB G N sc cm cb sts = true → ∀ (su : Su) (X : Cx) (W : WX), Cok G g n cm su X W → X.N = N → Sok sc X → ∀ b, PSs X sts (LSt g b su W (evB G (Tk.call G n) cb))
section
variable {G : Prog} {N : List Str} {sc : Scope} {g : Wd} {n : Nat}
theorem stm_ok : (∀ cm cs st, SOk G N sc g n cm cs st) ∧ (∀ cm cb sts, BlOk G N sc g n cm cb sts) := by
  refine ckS.mutual_induct (SOk G N sc g n) (BlOk G N sc g n) ?_ ?_ ?_ ?_ ?_ ?_ ?_ ?_ ?_ ?_ ?_ ?_ ?_ ?_ ?_ ?_ ?_ ?_ ?_ ?_ ?_ ?_ ?_ ?_ ?_ ?_ ?_ ?_ ?_ ?_ ?_ ?_ ?_ ?_
  case refine_1 =>
    intro cm st h su X W C hN K b
    exact never_st
  case refine_2 =>
    intro cm i e x p1 v pos h su X W C hN K b
    rw [ckS, Bool.and_eq_true] at h
    obtain ⟨te, h1, h2⟩ := asg_of C hN K h.1 h.2
    exact asg_set h1 h2
  case refine_3 =>
    intro cm i e x p1 v pos h su X W C hN K b
    rw [ckS, Bool.and_eq_true] at h
    obtain ⟨te, h1, h2⟩ := asg_of C hN K h.1 h.2
    exact asg_setO h1 h2
  case refine_4 =>
    intro cm i e x p1 v pos h su X W C hN K b
    rw [ckS, Bool.and_eq_true] at h
    obtain ⟨te, h1, h2⟩ := asg_of C hN K h.1 h.2
    exact asg_setL h1 h2
  case refine_5 =>
    intro cm is e ts k p v pos h su X W C hN K b
    rw [ckS] at h
    simp only [Bool.and_eq_true] at h
    obtain ⟨⟨⟨h1, h2⟩, h3⟩, h4⟩ := h
    subst hN
    exact s_setT C K h1 h2 sole_tup (st_tup h3) rfl (all_ok.1 sc e v h4 su X W C rfl K.m).1
  case refine_6 =>
    intro cm i j a b x px y py k p e1 e2 k2 p2 pos h su X W C hN K bb
    rw [ckS] at h
    simp only [Bool.and_eq_true] at h
    obtain ⟨⟨⟨h1, h2⟩, h3⟩, h4⟩ := h
    have hw := par_sw (kt := k) (pt := p) (k2 := k2) (pt2 := p2) K.kd K.sc h2
    unfold parB at h2
    simp only [Bool.and_eq_true, decide_eq_true_eq] at h2
    obtain ⟨⟨⟨⟨⟨⟨⟨⟨⟨⟨g1, g2⟩, g3⟩, g4⟩, g5⟩, g6⟩, g7⟩, g8⟩, g9⟩, g10⟩, g11⟩ := h2
    subst hN
    exact s_par C h1 g1 g2 g3 (by rw [K.sc]; exact loc1_of g5) (by rw [K.sc]; exact loc1_of g6) g8 g9 (all_ok.1 sc a e1 h3 su X W C rfl K.m).1 (all_ok.1 sc b e2 h4 su X W C rfl K.m).1 hw
  case refine_7 =>
    intro cm o f e a x p v pos h su X W C hN K b
    rw [ckS] at h
    simp only [Bool.and_eq_true, decide_eq_true_eq] at h
    exact s_seta C h.1.1 sw_attr (all_ok.1 sc o a h.1.2 su X W C hN K.m).1 (all_ok.1 sc e v h.2 su X W C hN K.m).1
  case refine_8 =>
    intro cm o k e a i p v pos h su X W C hN K b
    rw [ckS] at h
    simp only [Bool.and_eq_true] at h
    exact s_seti h.1.1.1 sole_sub st_sub (all_ok.1 sc o a h.1.1.2 su X W C hN K.m).1 (all_ok.1 sc k i h.1.2 su X W C hN K.m).1 (all_ok.1 sc e v h.2 su X W C hN K.m).1
  case refine_9 =>
    intro cm j k e x p1 i p2 v pos h su X W C hN K b
    rw [ckS] at h
    simp only [Bool.and_eq_true, decide_eq_true_eq] at h
    obtain ⟨⟨⟨⟨⟨h1, h2⟩, h3⟩, h4⟩, h5⟩, h6⟩ := h
    exact s_setiO C h4 (by rw [hN]; exact h1) (K.m.vis x h2) h3 sole_sub st_sub (all_ok.1 sc k i h5 su X W C hN K.m).1 (all_ok.1 sc e v h6 su X W C hN K.m).1
  case refine_10 =>
    intro cm o e a x apos v p2 pos h su X W C hN K b
    rw [ckS] at h
    simp only [Bool.and_eq_true, decide_eq_true_eq] at h
    obtain ⟨⟨⟨⟨⟨rfl, h2⟩, h3⟩, h4⟩, h5⟩, h6⟩ := h
    exact s_app h2 h3 h4 (all_ok.1 sc o a h5 su X W C hN K.m).1 (all_ok.1 sc e v h6 su X W C hN K.m).1
  case refine_11 =>
    intro cm j e y p1 x apos v p2 pos h su X W C hN K b
    rw [ckS] at h
    simp only [Bool.and_eq_true, decide_eq_true_eq] at h
    obtain ⟨⟨⟨⟨⟨⟨rfl, h2⟩, h3⟩, h4⟩, h5⟩, h6⟩, h7⟩ := h
    exact s_appO C (by rw [hN]; exact h2) (K.m.vis y h3) h4 h5 h6 (all_ok.1 sc e v h7 su X W C hN K.m).1
  case refine_12 =>
    intro cm e v pos h su X W C hN K b
    rw [ckS, Bool.and_eq_true] at h
    exact s_expr (sw_no h.1) (all_ok.1 sc e v h.2 su X W C hN K.m).1
  case refine_13 =>
    intro cm e v pos h su X W C hN K b
    rw [ckS] at h
    exact s_ret (all_ok.1 sc e v h su X W C hN K.m).1
  case refine_14 =>
    intro cm j x p pos h su X W C hN K b
    rw [ckS] at h
    simp only [Bool.and_eq_true, decide_eq_true_eq] at h
    exact s_retO C (by rw [hN]; exact h.1.1) (K.m.vis x h.1.2) h.2
  case refine_15 =>
    intro cm pos h su X W C hN K b
    exact s_retN
  case refine_16 =>
    intro cm pos h su X W C hN K b
    exact s_pass
  case refine_17 =>
    intro cm x j p pos h su X W C hN K b
    exact s_doc
  case refine_18 =>
    intro cm pos h su X W C hN K b
    exact s_brk
  case refine_19 =>
    intro cm pos h su X W C hN K b
    exact s_cont
  case refine_20 =>
    intro cm c a b t sa sb pos ih1 ih2 h su X W C hN K bb
    rw [ckS] at h
    simp only [Bool.and_eq_true] at h
    exact s_if ((all_ok.1 sc c t h.1.1.2 su X W C hN K.m).2 h.1.1.1) (ih1 h.1.2 su X W C hN K bb) (ih2 h.2 su X W C hN K bb)
  case refine_21 =>
    intro cm tg it b t i body pos ih h su X W C hN K bb
    rw [ckS] at h
    simp only [Bool.and_eq_true] at h
    obtain ⟨⟨⟨rfl, h2⟩, h3⟩, h4⟩ := h
    subst hN
    obtain ⟨i1, i2⟩ := all_ok.2.1 sc it t i h3 su X W C rfl K.m
    exact s_for C K h2 i2 i1 fun b' => ih h4 su X W C rfl K b'
  case refine_22 =>
    intro cm c b t body pos ih h su X W C hN K bb
    rw [ckS] at h
    simp only [Bool.and_eq_true] at h
    exact s_while K ((all_ok.1 sc c t h.1.2 su X W C hN K.m).2 h.1.1) (ih h.2 su X W C hN K bb)
  case refine_23 =>
    intro cm k es x p e p2 pos h su X W C hN K b
    rw [ckS] at h
    simp only [Bool.and_eq_true] at h
    obtain ⟨⟨⟨⟨⟨rfl, h2⟩, h3⟩, h4⟩, h5⟩, h6⟩ := h
    unfold excB at h4
    cases hc : G.clss[k]? with
    | none => rw [hc] at h4; cases h4
    | some cc =>
      rw [hc] at h4
      have h4 : (decide (cc.name = x) && cc.exc && (cc.fields.length == 1)) = true := h4
      simp only [Bool.and_eq_true, decide_eq_true_eq, beq_iff_eq] at h4
      obtain ⟨f, hf⟩ : ∃ f, cc.fields = [f] := by
        match cc.fields, h4.2 with
        | [f], _ => exact ⟨f, rfl⟩
      exact s_raise C (K.m.gl x h3) h2 hc h4.1.1 h4.1.2 hf h5 (all_ok.2.2.1 sc es [e] h6 su X W C hN K.m)
  case refine_24 =>
    intro cm b k nm hh body x np nm' b0 suite pos' pos ih1 ih2 h su X W C hN K bb
    rw [ckS] at h
    simp only [Bool.and_eq_true] at h
    obtain ⟨⟨⟨⟨⟨⟨rfl, h2⟩, h3⟩, h4⟩, h5⟩, h6⟩, h7⟩ := h
    have hsu := (C.cm rfl).2.2
    subst hsu
    unfold clB at h4
    cases hc : G.clss[k]? with
    | none => rw [hc] at h4; cases h4
    | some cc =>
      rw [hc] at h4
      have h4 : cc.name = x := of_decide_eq_true h4
      have tb : ∀ (W' : WX) (pn : List (Addr × Obj)) (xe : Value → Shared → Prop), Takes (X.tr pn xe) W' → PassesOwn (model X.prog X.w) X.A X.env xe → ∀ b', PSs (X.tr pn xe) body (LSt g b' none W' (evB G (Tk.call G n) b)) :=
        fun W' pn xe t p b' => ih1 h6 none _ W' (C.tr t rfl) hN (K.tr p) b'
      have ts : ∀ (a : Addr) (oe : Obj) (cls : Value) (d : Option Addr) (pn : List (Addr × Obj)), Zc cls d oe → (∃ vs, oe.data = .fields vs) → ∀ b', PSs (X.suite a ((a, oe) :: pn)) (b0 :: suite) (LSt g b' (some (a, cls, d)) noW (evB G (Tk.call G n) hh)) :=
        fun a oe cls d pn hz hf b' => ih2 h7 _ _ noW (C.suite hz hf) hN K.suite b'
      cases nm with
      | none =>
        cases nm' with
        | some y => cases h5
        | none => exact s_try_only C K (K.m.gl x h3) h2 hc h4 tb ts
      | some i =>
        cases nm' with
        | none => cases h5
        | some y =>
          have h5 : (decide (N[i]? = some y) && loc1B sc y) = true := h5
          rw [Bool.and_eq_true, decide_eq_true_eq] at h5
          exact s_try_as C K (by rw [hN]; exact h5.1) (by unfold Env.kindOf; rw [K.sc]; exact loc1_of h5.2) (K.m.gl x h3) h2 hc h4 tb ts
  case refine_25 =>
    intro cm i e x p1 op v pos h su X W C hN K b
    rw [ckS] at h
    unfold augB at h
    split at h
    · simp only [Bool.and_eq_true, decide_eq_true_eq] at h
      obtain ⟨⟨⟨⟨⟨⟨⟨h1, rfl⟩, rfl⟩, rfl⟩, h5⟩, h6⟩, h7⟩, h8⟩ := h
      exact s_aug C K h1 (by rw [hN]; exact h5) h6 h7 (all_ok.1 sc _ v h8 su X W C hN K.m).1
    · cases h
  case refine_26 =>
    intro cm j k e x p1 ix p2 op v pos h su X W C hN K b
    rw [ckS] at h
    unfold augOB at h
    split at h
    · simp only [Bool.and_eq_true, decide_eq_true_eq] at h
      obtain ⟨⟨⟨⟨⟨⟨⟨⟨⟨⟨⟨⟨⟨h1, rfl⟩, rfl⟩, rfl⟩, rfl⟩, rfl⟩, h7⟩, h8⟩, h9⟩, h10⟩, h11⟩, h12⟩, h13⟩, h14⟩ := h
      exact s_augO C h1 h7 (by rw [hN]; exact h8) (K.m.vis x h9) h10 h11 (fun ov iv new => by cases ix <;> first | rfl | cases h12) (all_ok.1 sc _ ix h13 su X W C hN K.m).1 (all_ok.1 sc _ v h14 su X W C hN K.m).1
    · cases h
  case refine_27 =>
    intro cm i k e x p1 ix p2 op v pos h su X W C hN K b
    rw [ckS] at h
    unfold augIB at h
    split at h
    · simp only [Bool.and_eq_true, decide_eq_true_eq] at h
      obtain ⟨⟨⟨⟨⟨⟨⟨⟨⟨⟨⟨h1, rfl⟩, rfl⟩, rfl⟩, h5⟩, h6⟩, h7⟩, h8⟩, h9⟩, h10⟩, h11⟩, h12⟩ := h
      exact s_augI C h1 h5 (by rw [hN]; exact h6) (K.m.vis x h7) h8 h9 (fun ov iv new => by cases ix <;> first | rfl | cases h10) (all_ok.1 sc _ ix h11 su X W C hN K.m).1 (all_ok.1 sc _ v h12 su X W C hN K.m).1
    · cases h
  case refine_28 =>
    intro cm b k1 i1 h1 k2 i2 h2 body x1 p1 n1 b1 u1 q1 x2 p2 n2 b2 u2 q2 pos ih1 ih2 ih3 h su X W C hN K bb
    rw [ckS] at h
    simp only [Bool.and_eq_true] at h
    obtain ⟨⟨⟨⟨⟨⟨⟨⟨⟨⟨⟨rfl, m1⟩, m2⟩, g1⟩, g2⟩, c1⟩, c2⟩, y1⟩, y2⟩, t1⟩, t2⟩, t3⟩ := h
    have hsu := (C.cm rfl).2.2
    subst hsu
    have cls : ∀ {k : Nat} {x : Str}, clB G k x = true → ∃ cc, G.clss[k]? = some cc ∧ cc.name = x := by
      intro k x z
      unfold clB at z
      cases hc : G.clss[k]? with
      | none => rw [hc] at z; cases z
      | some cc => rw [hc] at z; exact ⟨cc, rfl, of_decide_eq_true z⟩
    have slt : ∀ {i : Nat} {y : Str}, nmB N sc (some i) (some y) = true → X.N[i]? = some y ∧ X.env.kindOf y = some .local := by
      intro i y z
      have z : (decide (N[i]? = some y) && loc1B sc y) = true := z
      rw [Bool.and_eq_true, decide_eq_true_eq] at z
      exact ⟨by rw [hN]; exact z.1, by unfold Env.kindOf; rw [K.sc]; exact loc1_of z.2⟩
    obtain ⟨d1, v1, w1⟩ := cls c1
    obtain ⟨d2, v2, w2⟩ := cls c2
    exact s_try_two C K (slt y1).1 (slt y2).1 (slt y1).2 (slt y2).2 (K.m.gl x1 g1) (K.m.gl x2 g2) m1 m2 v1 v2 w1 w2
      (fun W' pn xe t p b' => ih1 t1 none _ W' (C.tr t rfl) hN (K.tr p) b')
      (fun a oe cls d pn hz hf b' => ih2 t2 _ _ noW (C.suite hz hf) hN K.suite b')
      (fun a oe cls d pn hz hf b' => ih3 t3 _ _ noW (C.suite hz hf) hN K.suite b')
  case refine_29 =>
    intro cm b k1 i1 h1 k2 i2 h2 k3 i3 h3 body x1 p1 n1 b1 u1 q1 x2 p2 n2 b2 u2 q2 x3 p3 n3 b3 u3 q3 pos ih1 ih2 ih3 ih4 h su X W C hN K bb
    rw [ckS] at h
    simp only [Bool.and_eq_true] at h
    obtain ⟨⟨⟨⟨⟨⟨⟨rfl, m1⟩, m2⟩, m3⟩, ⟨g1, g2⟩, g3⟩, ⟨c1, c2⟩, c3⟩, ⟨y1, y2⟩, y3⟩, ⟨⟨t1, t2⟩, t3⟩, t4⟩ := h
    have hsu := (C.cm rfl).2.2
    subst hsu
    have cls : ∀ {k : Nat} {x : Str}, clB G k x = true → ∃ cc, G.clss[k]? = some cc ∧ cc.name = x := by
      intro k x z
      unfold clB at z
      cases hc : G.clss[k]? with
      | none => rw [hc] at z; cases z
      | some cc => rw [hc] at z; exact ⟨cc, rfl, of_decide_eq_true z⟩
    have slt : ∀ {i : Nat} {y : Str}, nmB N sc (some i) (some y) = true → X.N[i]? = some y ∧ X.env.kindOf y = some .local := by
      intro i y z
      have z : (decide (N[i]? = some y) && loc1B sc y) = true := z
      rw [Bool.and_eq_true, decide_eq_true_eq] at z
      exact ⟨by rw [hN]; exact z.1, by unfold Env.kindOf; rw [K.sc]; exact loc1_of z.2⟩
    obtain ⟨d1, v1, w1⟩ := cls c1
    obtain ⟨d2, v2, w2⟩ := cls c2
    obtain ⟨d3, v3, w3⟩ := cls c3
    exact s_try_three C K (slt y1).1 (slt y2).1 (slt y3).1 (slt y1).2 (slt y2).2 (slt y3).2 (K.m.gl x1 g1) (K.m.gl x2 g2) (K.m.gl x3 g3) m1 m2 m3 v1 v2 v3 w1 w2 w3
      (fun W' pn xe t p b' => ih1 t1 none _ W' (C.tr t rfl) hN (K.tr p) b')
      (fun a oe cls d pn hz hf b' => ih2 t2 _ _ noW (C.suite hz hf) hN K.suite b')
      (fun a oe cls d pn hz hf b' => ih3 t3 _ _ noW (C.suite hz hf) hN K.suite b')
      (fun a oe cls d pn hz hf b' => ih4 t4 _ _ noW (C.suite hz hf) hN K.suite b')
  case refine_30 =>
    intro cm cs st
    intros
    intro hck
    rw [ckS] at hck
    · cases hck
    all_goals assumption
  case refine_31 =>
    intro cm h su X W C hN K b
    exact b_nil
  case refine_32 =>
    intro cm s r st sts ih1 ih2 h su X W C hN K b
    rw [ckB, Bool.and_eq_true] at h
    exact b_cons (ih1 h.1 su X W C hN K b) (ih2 h.2 su X W C hN K b)
  case refine_33 =>
    intro cm i r sts ih h su X W C hN K b
    rw [ckB] at h
    exact b_frz (ih h su X W C hN K b)
  case refine_34 =>
    intro cm cb sts
    intros
    intro hck
    rw [ckB] at hck
    · cases hck
    all_goals assumption
end
end Tk
/-! Core 29: a def keeps its promise. -/
namespace Tk
open PySem PySem.Spec PyProof.Rows L2

section
variable {G : Prog} {g : Wd} {n : Nat} {c c' c1 c2 : Ct} {H H' H1 H2 : Hp} {S S' S1 S2 : Sto} {Q : VK} {E0 : XK} {A : Addr} {v : V} {d : D}
abbrev b0 (c : Ct) (H : Hp) : Bs := ⟨c, H, []⟩
abbrev bk (c2 c : Ct) : Ct := ⟨c2.m, c.x, c.su⟩
abbrev bn (c : Ct) : Ct := ⟨[], c.x, c.su⟩
abbrev dnE (Q : VK) : Ends := { nx := fun _ H' => Q .non H', rt := Q }
theorem cy_bk (q : B (b0 c H) c2 H2) : Cy c2 H2 (bk c2 c) H2 := ⟨fun a o ⟨h1, h2, h3⟩ => ⟨h1, h2, fun z => h3 (q.x a z (by simp))⟩, fun _ _ z => z⟩
theorem e_bk (q : B (b0 c H) c2 H2) : E c H (bk c2 c) H2 := ⟨q.pre, rfl, rfl, fun a o h1 h2 => q.keep a o h1 h2 (by simp), q.dom⟩
theorem r_bk (q : B (b0 c H) c2 H2) (s : RelS g c2 H2 S2) : RelS g (bk c2 c) H2 S2 := ⟨s.nd, s.len, fun a h => s.x a (q.x a h (by simp)), fun k ce a h1 h2 => (s.ok k ce a h1 h2).cy (cy_bk q) fun _ z => z⟩
/-- an own list of the frame is given away -/
theorem r_bk_plus (q : B (b0 c H) c2 H2) (s : RelS g c2 H2 S2) (hA : A ∈ c2.x) : RelS g ((bk c2 c).plus A) H2 S2 := by
  have cy : Cy c2 H2 ((bk c2 c).plus A) H2 := ⟨fun a o ⟨h1, h2, h3⟩ => ⟨h1, h2, fun z => (List.mem_cons.mp z).elim (fun w => h3 (by rw [w]; exact hA)) fun w => h3 (q.x a w (by simp))⟩, fun _ _ z => z⟩
  exact ⟨s.nd, s.len, fun a h => s.x a ((List.mem_cons.mp h).elim (fun w => by rw [w]; exact hA) fun w => q.x a w (by simp)), fun k ce a h1 h2 => (s.ok k ce a h1 h2).cy cy fun _ z => z⟩
theorem cy_bk_own (q : B (b0 c H) c2 H2) (hA : A ∈ c2.x) : Cy c2 H2 ((bk c2 c).plus A) H2 := ⟨fun a o ⟨h1, h2, h3⟩ => ⟨h1, h2, fun z => (List.mem_cons.mp z).elim (fun w => h3 (by rw [w]; exact hA)) fun w => h3 (q.x a w (by simp))⟩, fun _ _ z => z⟩
theorem cy_bk_plus (q : B (b0 c H) c2 H2) : Cy (c2.plus A) H2 ((bk c2 c).plus A) H2 := ⟨fun a o ⟨h1, h2, h3⟩ => ⟨h1, h2, fun z => h3 ((List.mem_cons.mp z).elim (fun w => by rw [w]; exact List.mem_cons_self) fun w => List.mem_cons_of_mem _ (q.x a w (by simp)))⟩, fun _ _ z => z⟩
theorem fx_bn (q : B (b0 c H) c2 H2) : ∀ a o, Fx c2 H2 a o → Fx (bn c) H2 a o := fun a o ⟨h1, h2, h3⟩ => ⟨h1, by simp, fun z => h3 (q.x a z (by simp))⟩
theorem fx_bn_plus (q : B (b0 c H) c2 H2) : ∀ a o, Fx (c2.plus A) H2 a o → Fx ((bn c).plus A) H2 a o := fun a o ⟨h1, h2, h3⟩ => ⟨h1, by simp [Ct.plus], fun z => h3 ((List.mem_cons.mp z).elim (fun w => by rw [w]; exact List.mem_cons_self) fun w => List.mem_cons_of_mem _ (q.x a w (by simp)))⟩
theorem e_bn (q : B (b0 c H) c2 H2) (hm : c.m = []) : E c H (bn c) H2 := ⟨by rw [hm]; exact List.prefix_refl _, rfl, rfl, fun a o h1 h2 => ⟨(q.keep a o h1 h2 (by simp)).1, by simp⟩, q.dom⟩
theorem r_bn (q : B (b0 c H) c2 H2) (s : RelS g c2 H2 S2) : RelS g (bn c) H2 [] := ⟨List.nodup_nil, rfl, fun a h => ⟨by simp, (s.x a (q.x a h (by simp))).2⟩, fun k ce a h1 => by simp at h1⟩
theorem r_bn_plus (q : B (b0 c H) c2 H2) (s : RelS g c2 H2 S2) (hA : H2 A ≠ none) : RelS g ((bn c).plus A) H2 [] := ⟨List.nodup_nil, rfl, fun a h => ⟨by simp [Ct.plus], (List.mem_cons.mp h).elim (fun w => by rw [w]; exact hA) fun w => (s.x a (q.x a w (by simp))).2⟩, fun k ce a h1 => by simp at h1⟩
theorem xrep_cy {k : Nat} {fs : List D} {dx : Option Addr} (x : XRep g c H k fs dx) (e : Cy c H c' H') : XRep g c' H' k fs dx := by
  obtain ⟨vs, h1, h2, h3⟩ := x
  exact ⟨vs, h1, Reps.cy e _ _ h2, h3.imp id fun ⟨dd, w1, w2⟩ => ⟨dd, w1, e.fx _ _ w2⟩⟩
/-- a body's end -/
theorem fin_post (r : RelS g c H S) {o : O} (hp : Post g c H (fun cls dx H' => E0 cls dx H') Q (fin S.length o)) : PostS g (b0 c H) c.su (fun cls dx _ H' => E0 cls dx H') (dnE Q) o := by
  have hm0 : S.length = 0 → c.m = [] := fun h => List.length_eq_zero_iff.mp (r.len.trans h)
  cases o with
  | bad => exact hp.elim
  | brk ρ S2 => exact hp.elim
  | cont ρ S2 => exact hp.elim
  | next ρ S2 =>
    intro c2 H2 o2 σ2 f
    have hp : Post g c H (fun cls dx H' => E0 cls dx H') Q (if S2.length = S.length then .ok .non S2 else if S.length = 0 then .ok .non [] else .bad) := hp
    show Q .non H2
    have hr : ∀ c', RepT g c' H2 .non .non := fun c' => by show Rep g c' H2 .non .non; rw [Rep]
    by_cases h1 : S2.length = S.length
    · rw [if_pos h1] at hp
      exact hp .non H2 (bk c2 c) (Got.of (e_bk f.bs) (hr _) (r_bk f.bs f.s) fun xs z => by cases z)
    · rw [if_neg h1] at hp
      by_cases h2 : S.length = 0
      · rw [if_pos h2] at hp
        exact hp .non H2 (bn c) (Got.of (e_bn f.bs (hm0 h2)) (hr _) (r_bn f.bs f.s) fun xs z => by cases z)
      · rw [if_neg h2] at hp; exact hp.elim
  | err k fs ρ S2 =>
    intro c2 H2 o2 σ2 dx f hx
    have hp : Post g c H (fun cls dx H' => E0 cls dx H') Q (if S2.length = S.length then .err k fs S2 else if S.length = 0 ∧ nols fs then .err k fs [] else .bad) := hp
    by_cases h1 : S2.length = S.length
    · rw [if_pos h1] at hp
      exact hp H2 (bk c2 c) dx (e_bk f.bs) (r_bk f.bs f.s) (xrep_cy hx (cy_bk f.bs))
    · rw [if_neg h1] at hp
      by_cases h2 : S.length = 0 ∧ nols fs = true
      · rw [if_pos h2] at hp
        obtain ⟨vs, w1, w2, w3⟩ := hx
        exact hp H2 (bn c) dx (e_bn f.bs (hm0 h2.1)) (r_bn f.bs f.s) ⟨vs, w1, Reps.iso (fx_bn f.bs) _ _ h2.2 w2, w3.imp id fun ⟨dd, u1, u2⟩ => ⟨dd, u1, fx_bn f.bs _ _ u2⟩⟩
      · rw [if_neg h2] at hp; exact hp.elim
  | ret d S2 =>
    intro c2 H2 v hsu q s hr hn
    have hp : Post g c H (fun cls dx H' => E0 cls dx H') Q (if S2.length = S.length then .ok (finD d) S2 else if S.length = 0 ∧ nol d then .ok d [] else .bad) := hp
    show Q v H2
    by_cases h1 : S2.length = S.length
    · rw [if_pos h1] at hp
      cases d with
      | own i xs =>
        obtain ⟨a, vs, e1, e2, e3, e4⟩ := hr
        obtain ⟨a', e5, e6, e7⟩ := hn
        rw [e1] at e5
        cases e5
        have hH : H a = none := e6.elim id fun z => by simp at z
        have hax : a ∉ c.x := fun z => (r.x a z).2 hH
        refine hp v H2 (bk c2 c) ⟨e_bk q, ⟨a, vs, e1, ⟨e2, e3, hax⟩, Reps.cy (cy_bk q) _ _ e4⟩, r_bk q s, fun ys z => ?_⟩
        cases z
        exact ⟨a, vs, e1, hH, r_bk_plus q s e7, e2, Reps.cy (cy_bk_own q e7) _ _ e4⟩
      | new xs =>
        obtain ⟨a, vs, e1, e2, e3, e4, e5⟩ := hn
        have hax : a ∉ c.x := fun z => (r.x a z).2 e2
        have ham : a ∉ c2.m := (e3.x a List.mem_cons_self).1
        refine hp v H2 (bk c2 c) ⟨e_bk q, ⟨a, vs, e1, ⟨e4, ham, hax⟩, Reps.cy cy_weak _ _ (Reps.cy (cy_bk_plus q) _ _ e5)⟩, r_bk q s, fun ys z => ?_⟩
        cases z
        refine ⟨a, vs, e1, e2, ⟨s.nd, s.len, fun p h => e3.x p ((List.mem_cons.mp h).elim (fun w => by rw [w]; exact List.mem_cons_self) fun w => List.mem_cons_of_mem _ (q.x p w (by simp))), fun k ce p h1 h2 => (e3.ok k ce p h1 h2).cy (cy_bk_plus q) fun _ z => z⟩, e4, Reps.cy (cy_bk_plus q) _ _ e5⟩
      | _ => exact hp v H2 (bk c2 c) (Got.of (e_bk q) (hr.cy (cy_bk q) (by rw [hsu]) fun _ _ z1 z2 => ⟨z1, z2⟩) (r_bk q s) fun xs z => by cases z)
    · rw [if_neg h1] at hp
      by_cases h2 : S.length = 0 ∧ nol d = true
      · rw [if_pos h2] at hp
        cases d with
        | own i xs => cases h2.2
        | exn k fs => cases h2.2
        | new xs =>
          obtain ⟨a, vs, e1, e2, e3, e4, e5⟩ := hn
          have hax : a ∉ c.x := fun z => (r.x a z).2 e2
          have h4 : nols xs = true := h2.2
          have w := Reps.iso (fx_bn_plus q) _ _ h4 e5
          refine hp v H2 (bn c) ⟨e_bn q (hm0 h2.1), ⟨a, vs, e1, ⟨e4, by simp, hax⟩, Reps.cy cy_weak _ _ w⟩, r_bn q s, fun ys z => ?_⟩
          cases z
          exact ⟨a, vs, e1, e2, r_bn_plus q s (by rw [e4]; exact fun z => nomatch z), e4, w⟩
        | _ => exact hp v H2 (bn c) (Got.of (e_bn q (hm0 h2.1)) (Rep.iso (fx_bn q) _ _ h2.2 hr) (r_bn q s) fun xs z => by cases z)
      · rw [if_neg h2] at hp; exact hp.elim
/-- the slots at the beginning -/
theorem start_rel {N : List Str} {ds : List D} {vs : List V} (r : RelS g c H S) (hr : Reps g c H ds vs) (hl : vs.length ≤ N.length) : RelE g c H [] (L2.start N vs) (ds.map Slot.val ++ List.replicate (N.length - ds.length) Slot.emp) := by
  have el := hr.length
  have get : ∀ {i : Nat} {s : Slot}, (ds.map Slot.val ++ List.replicate (N.length - ds.length) Slot.emp)[i]? = some s → s = .emp ∨ ∃ d, ds[i]? = some d ∧ s = .val d := by
    intro i s h
    by_cases q : i < ds.length
    · rw [List.getElem?_append_left (by rw [List.length_map]; exact q), List.getElem?_map, List.getElem?_eq_getElem q] at h
      exact .inr ⟨_, List.getElem?_eq_getElem q, (Option.some.inj h).symm⟩
    · rw [List.getElem?_append_right (by rw [List.length_map]; exact Nat.le_of_not_lt q), List.getElem?_replicate] at h
      split at h
      · exact .inl (Option.some.inj h).symm
      · cases h
  refine ⟨?_, fun i d h => ?_, fun i xs h => ?_, fun i k fs h => ?_, fun i a h => by simp at h, fun i j a h => by simp at h⟩
  · unfold L2.start; simp [el]
  · rcases get h with z | ⟨d', h1, h2⟩
    · cases z
    · cases h2
      obtain ⟨v, h3, h4⟩ := hr.get h1
      refine ⟨v, ?_, h4⟩
      have hi := (List.getElem?_eq_some_iff.mp h3).1
      unfold L2.start
      rw [List.getElem?_append_left (by rw [List.length_map]; exact hi), List.getElem?_map, h3]; rfl
  · rcases get h with z | ⟨d', h1, h2⟩
    · cases z
    · cases h2
  · rcases get h with z | ⟨d', h1, h2⟩
    · cases z
    · cases h2
theorem def_ok {P : Program} {w : World} {mg : Str → Option Value} {base : Heap} {f : Nat} {d : DefT} {x qual : Str} {params : Arguments} {body : List Stmt} {scope : Scope} {dvs : List V} {kws : List (Str × V)} {a : Addr} {fd : FuncData} {ps : List Str}
    (F : FunD g.K x qual params body scope dvs kws a fd) (Sc : FnScope d.N ps scope) (hd : G.defs[f]? = some d) (hp : ps.length = d.np) (hk : ckB G d.N scope true d.body body = true)
    (st : Stat G g mg) (wf : Wf G) (ca : Calls G g P w mg base n) (ex : Excs G g P w mg base) : FnOk P w g.K mg base (L2.CX P w) (lv (n + 1)) a fd ps (SpF g (Tk.call G (n + 1)) d.np f) := by
  have hle : ps.length ≤ d.N.length := by have := congrArg List.length Sc.pre; rw [List.length_take] at this; omega
  refine F.ok (k := 4 * n + 4) Sc (fun vs H Q E h => by rw [h.1, hp]) fun cdv A outer s H vs Q E hr h => ?_
  obtain ⟨hl, c, S, ds, hsu, r, hds, h⟩ := h
  have hdl : ds.length = d.np := by rw [← hds.length, hl]
  have e : Tk.call G (n + 1) f ds S = fin S.length (evB G (Tk.call G n) d.body (ds.map Slot.val ++ List.replicate (d.N.length - d.np) Slot.emp) S) := by
    show callD G (Tk.call G n) ds S G.defs[f]? = _
    rw [hd]
    show (if ds.length = d.np then _ else _) = _
    rw [if_pos hdl]
  rw [e] at h
  have post := fin_post r h
  rw [hsu] at post
  let X := cxOf (L2.CX P w) P w g.K mg base d.N qual scope a cdv A outer s H E
  have C : Cok G g n true none X (fun cls dx _ H' => E cls dx H') := ⟨rfl, Sc.nd, takes_of rfl rfl rfl rfl, fun _ => ⟨rfl, hr, rfl⟩, st, wf, ca, ex, fun q h => by cases h⟩
  have K : Sok scope X := ⟨fun y hy => ⟨?_, .inl rfl⟩, scOk_refl, passes_of rfl, rfl, rfl, rfl, Sc.kind⟩
  · refine ⟨_, stm_ok.2 true d.body body hk none X _ C rfl K (b0 c H), c, S, _, [], ⟨hsu, ⟨List.prefix_refl _, fun _ h _ => h, fun _ h => .inl h, rfl, fun _ _ h1 h2 _ => ⟨h1, h2⟩, fun _ h => h, fun a h => (r.x a h).2⟩, r, start_rel r hds (by rw [hl, ← hp]; exact hle), fun i a h => by simp at h⟩, ?_⟩
    rw [hdl]
    exact post
  · unfold locB at hy
    split at hy
    · rename_i q; exact .inl q
    · rename_i q; exact .inr q
    · cases hy
end
end Tk
/-! Core 30: what the written part must say, as tests; all defs. -/
namespace Tk
open PySem PySem.Spec PyProof.Rows L2
open He (eqO eqO_ok ba Fa DefD)

def cnm (G : Prog) (k : Nat) : Str := match G.clss[k]? with
  | some c => c.name
  | none => ""
def gOf (G : Prog) (K : PySem.W.Frag) : Wd := ⟨K, fun k => He.ga K (cnm G k), fun k => match G.clss[k]? with
  | some c => c.fields
  | none => []⟩
def allC (G : Prog) (p : Nat → ClsT → Bool) : Bool := (List.range G.clss.length).all fun k => match G.clss[k]? with
  | some c => p k c
  | none => true
theorem allC_at {G : Prog} {p : Nat → ClsT → Bool} (h : allC G p = true) {k : Nat} {c : ClsT} (hk : G.clss[k]? = some c) : p k c = true := by
  have := List.all_eq_true.mp h k (List.mem_range.mpr (List.getElem?_eq_some_iff.mp hk).1)
  rw [hk] at this; exact this
theorem cnm_of {G : Prog} {k : Nat} {c : ClsT} (hk : G.clss[k]? = some c) : cnm G k = c.name := by unfold cnm; rw [hk]
theorem cls_some {G : Prog} {k : Nat} (h : G.cls? k = true) : ∃ c, G.clss[k]? = some c ∧ c.exc = false := by
  unfold Prog.cls? at h
  split at h
  · rename_i c q; exact ⟨c, q, by simpa using h⟩
  · cases h
theorem exc_some {G : Prog} {k : Nat} (h : G.exc? k = true) : ∃ c, G.clss[k]? = some c ∧ c.exc = true := by
  unfold Prog.exc? at h
  split at h
  · rename_i c q; exact ⟨c, q, h⟩
  · cases h
/-! ### tests of a class -/
def excAtB (K : PySem.W.Frag) (C : Addr) (f : Str) : Bool := eqO (PySem.W.findIn K (.ref C) "__getattribute__") (some (some (.builtin "BaseException.__getattribute__"))) && eqO (PySem.W.findIn K (.ref C) "__getattr__") (some none) &&
  eqO (PySem.W.findIn K (.ref C) f) (some none) && decide (PySem.W.subIn K (.ref C) (.type "BaseException") = some true) && PySem.W.hasDictIn K C
theorem excAtB_ok {K : PySem.W.Frag} {C : Addr} {f : Str} (h : excAtB K C f = true) : ExcAt K C f := by
  unfold excAtB at h
  simp only [Bool.and_eq_true] at h
  obtain ⟨⟨⟨⟨h1, h2⟩, h3⟩, h4⟩, h5⟩ := h
  exact ⟨eqO_ok h1, eqO_ok h2, eqO_ok h3, of_decide_eq_true h4, h5⟩
def tyoB (K : PySem.W.Frag) (C : Addr) : Bool := eqO (PySem.W.findIn K (.ref C) "__class__") (some (some (.builtin "object.__class__"))) && eqO (PySem.W.specialIn K (.builtin "object.__class__") "__get__") (some (some (.builtin "getset_descriptor.__get__"))) &&
  decide (PySem.W.takesIn K (.builtin "object.__class__") = some true) && decide (PySem.W.mroIn K C (.type "object") = some true)
theorem tyoB_ok {K : PySem.W.Frag} {C : Addr} (h : tyoB K C = true) : PySem.W.findIn K (.ref C) "__class__" = some (some (.builtin "object.__class__")) ∧
    PySem.W.specialIn K (.builtin "object.__class__") "__get__" = some (some (.builtin "getset_descriptor.__get__")) ∧ PySem.W.takesIn K (.builtin "object.__class__") = some true ∧ PySem.W.mroIn K C (.type "object") = some true := by
  unfold tyoB at h
  simp only [Bool.and_eq_true] at h
  obtain ⟨⟨⟨h1, h2⟩, h3⟩, h4⟩ := h
  exact ⟨eqO_ok h1, eqO_ok h2, of_decide_eq_true h3, of_decide_eq_true h4⟩
def excCB (K : PySem.W.Frag) (C : Addr) : Bool := eqO (PySem.W.findIn K (.ref C) "__getattribute__") (some (some (.builtin "BaseException.__getattribute__"))) && eqO (PySem.W.findIn K (.ref C) "__getattr__") (some none) &&
  decide (PySem.W.subIn K (.ref C) (.type "BaseException") = some true) && PySem.W.hasDictIn K C && tyoB K C
theorem excCB_ok {K : PySem.W.Frag} {C : Addr} (h : excCB K C = true) : ExcC K C := by
  unfold excCB at h
  simp only [Bool.and_eq_true] at h
  obtain ⟨⟨⟨⟨h1, h2⟩, h3⟩, h4⟩, h5⟩ := h
  obtain ⟨k1, k2, k3, k4⟩ := tyoB_ok h5
  exact ⟨eqO_ok h1, eqO_ok h2, of_decide_eq_true h3, h4, k1, k2, k3, k4⟩
def subTB (K : PySem.W.Frag) (C : Addr) : Bool := decide (PySem.W.subIn K (.ref C) (.type "int") = some false) && decide (PySem.W.subIn K (.ref C) (.type "bool") = some false)
def exoB (K : PySem.W.Frag) (C : Addr) : Bool := match K.lookup C with
  | some ⟨.type "type", _, .cls cd, sl⟩ => (match cd.mro, sl.toList with
    | .ref C' :: bm, [_, _, _, _, some (.builtin n), _] => C' == C && n == "ValueError.__new__" && !cd.hasDel && cd.hasDict && HandSPX.refsVE bm
    | _, _ => false)
  | _ => false
theorem exoB_ok {K : PySem.W.Frag} {C : Addr} (q : exoB K C = true) : ∃ nm q N bs bm sn sub ab col dd k0 k1 k2 k3 k5, K.lookup C = some (excClassObj nm q C N bs bm true sn sub ab col dd k0 k1 k2 k3 k5 "ValueError.__new__") ∧ HandSPX.refsVE bm = true := by
  unfold exoB at q
  split at q
  · rename_i dd cd sl ho
    split at q
    · rename_i C' bm k0 k1 k2 k3 m k5 hm hs
      simp only [Bool.and_eq_true, beq_iff_eq, Bool.not_eq_true'] at q
      obtain ⟨⟨⟨⟨rfl, rfl⟩, hdel⟩, hdc⟩, ht⟩ := q
      obtain ⟨nm, bs, mro, ns, qn, hd, sn, sub, ab, col, del⟩ := cd
      dsimp only at hm hdel hdc
      subst hm hdel hdc
      have hsl : sl = #[k0, k1, k2, k3, some (.builtin "ValueError.__new__"), k5] := by
        obtain ⟨l⟩ := sl
        simp only at hs
        rw [hs]
      subst hsl
      exact ⟨nm, qn, ns, bs, bm, sn, sub, ab, col, dd, k0, k1, k2, k3, k5, ho, ht⟩
    · cases q
  · cases q
def oexB (K : PySem.W.Frag) (C : Addr) : Bool := exoB K C && eqO (PySem.W.findIn K (.ref C) "__setattr__") (some (some (.builtin "object.__setattr__"))) && decide (PySem.W.subIn K (.ref C) (.type "BaseException") = some true) &&
  decide (PySem.W.typeIn K (.ref C) = some (.type "type")) && PySem.W.keepIn K (.ref C) && eqO (PySem.W.findIn K (.ref C) "__init__") (some (some (.ref (He.ma K C "__init__")))) && decide (PySem.W.typeIn K (.ref (He.ma K C "__init__")) = some (.type "function"))
theorem oexB_ok {K : PySem.W.Frag} {C : Addr} (h : oexB K C = true) : OexC K C ∧ PySem.W.findIn K (.ref C) "__init__" = some (some (.ref (He.ma K C "__init__"))) ∧ PySem.W.typeIn K (.ref (He.ma K C "__init__")) = some (.type "function") := by
  unfold oexB at h
  simp only [Bool.and_eq_true] at h
  obtain ⟨⟨⟨⟨⟨⟨h1, h2⟩, h3⟩, h4⟩, h5⟩, h6⟩, h7⟩ := h
  exact ⟨⟨exoB_ok h1, eqO_ok h2, of_decide_eq_true h3, of_decide_eq_true h4, h5⟩, eqO_ok h6, of_decide_eq_true h7⟩
/-! ### isinstance, by representatives -/
def repD : D → D
  | .non => .non
  | .bl _ => .bl true
  | .int _ => .int 0
  | .str _ => .str ""
  | .tup _ => .tup []
  | .dic0 => .dic0
  | .obj k _ => .obj k []
  | .exn k _ => .exn k []
  | _ => .lst []
def repsL (G : Prog) : List D := [.non, .bl true, .int 0, .str "", .tup [], .dic0, .lst []] ++ (List.range G.clss.length).flatMap fun k => [.obj k [], .exn k []]
def qsL (G : Prog) : List Ck := tyNames.map .ty ++ (List.range G.clss.length).map .own
def isiAllB (G : Prog) (K : PySem.W.Frag) : Bool := (repsL G).all fun d => (qsL G).all fun q => !okD G d || match isiB G d q with
  | none => true
  | some b => decide (PySem.W.kitOne K (tyV (gOf G K) d) (ckV (gOf G K) q) = some b)
theorem isiB_rep {G : Prog} {d : D} {q : Ck} : isiB G (repD d) q = isiB G d q := by cases d <;> cases q <;> rfl
theorem tyV_rep {g : Wd} {d : D} : tyV g (repD d) = tyV g d := by cases d <;> rfl
theorem okD_rep {G : Prog} {d : D} : okD G (repD d) = okD G d := by cases d <;> rfl
theorem obj_mem {G : Prog} {k : Nat} (h : k < G.clss.length) : D.obj k [] ∈ repsL G ∧ D.exn k [] ∈ repsL G := by
  have := List.mem_range.mpr h
  exact ⟨List.mem_append_right _ (List.mem_flatMap.mpr ⟨k, this, by simp⟩), List.mem_append_right _ (List.mem_flatMap.mpr ⟨k, this, by simp⟩)⟩
theorem rep_mem {G : Prog} {d : D} {q : Ck} {b : Bool} (h : okD G d = true) (h2 : isiB G d q = some b) : repD d ∈ repsL G := by
  cases d <;> first | (refine List.mem_append_left _ ?_; simp only [repD, List.mem_cons, true_or, or_true]; done) | skip
  · rename_i k fs
    have hk : G.cls? k = true := by
      cases q with
      | ty n =>
        cases z : G.cls? k with
        | true => rfl
        | false => simp only [isiB] at h2; rw [if_pos z] at h2; cases h2
      | own j =>
        cases z : G.cls? k with
        | true => rfl
        | false => simp only [isiB, z, Bool.false_and] at h2; cases h2
    obtain ⟨c, hc, _⟩ := cls_some hk
    exact (obj_mem (List.getElem?_eq_some_iff.mp hc).1).1
  · rename_i k fs
    obtain ⟨c, hc, _⟩ := exc_some (k := k) h
    exact (obj_mem (List.getElem?_eq_some_iff.mp hc).1).2
theorem q_mem {G : Prog} {q : Ck} (h : okQ G q = true) : q ∈ qsL G := by
  cases q with
  | ty n => exact List.mem_append_left _ (List.mem_map.mpr ⟨n, of_decide_eq_true h, rfl⟩)
  | own k =>
    obtain ⟨c, hc⟩ := Option.isSome_iff_exists.mp h
    exact List.mem_append_right _ (List.mem_map.mpr ⟨k, List.mem_range.mpr (List.getElem?_eq_some_iff.mp hc).1, rfl⟩)
/-! ### the classes -/
def opK (K : PySem.W.Frag) (C : Addr) (op : Operator) : Bool := PySem.W.selfFirst K C && (PySem.W.findIn K (.type "int") (PySem.dunder op.info.2)).isSome && (PySem.W.findIn K (.type "int") (PySem.dunderR op.info.2)).isSome && decide (PySem.W.subIn K (.type "int") (.ref C) = some false)
theorem opK_ok {K : PySem.W.Frag} {C : Addr} {op : Operator} (h : opK K C op = true) : OpK K C op := by
  unfold opK at h
  simp only [Bool.and_eq_true] at h
  obtain ⟨⟨⟨h1, h2⟩, h3⟩, h4⟩ := h
  exact ⟨h1, Option.isSome_iff_exists.mp h2, Option.isSome_iff_exists.mp h3, of_decide_eq_true h4⟩
def clsB (G : Prog) (K : PySem.W.Frag) (k : Nat) (c : ClsT) : Bool := eqO (PySem.W.nsIn K mainGlobals c.name) (some (some (.ref (He.ga K c.name)))) && decide (c.fields.length < 1000) && c.ops.all (fun q => opK K (He.ga K c.name) (toOp q.1)) &&
  (if c.exc then excCB K (He.ga K c.name) && c.fields.all (excAtB K (He.ga K c.name)) && (!(c.fields.length == 1) || oexB K (He.ga K c.name)) &&
      allC G (fun j d => !d.exc || decide (PySem.W.exmOne K (.ref (He.ga K c.name)) (.ref (He.ga K d.name)) = some (G.subB k j)))
    else (Fa.cls c.name).ok K && c.fields.all (fun f => (Fa.noat c.name f).ok K) && tyoB K (He.ga K c.name) && subTB K (He.ga K c.name) &&
      allC G (fun j d => d.exc || decide (k = j) || decide (PySem.W.subIn K (.ref (He.ga K d.name)) (.ref (He.ga K c.name)) = some false)))
/-! ### the text's constants -/
mutual
def gvB (K : PySem.W.Frag) : D → Value → Bool
  | .int i, .int j _ => decide (i = j)
  | .tup ds, .ref a => match K.lookup a with
    | some ⟨.type "tuple", _, .seq its _, _⟩ => decide (its.size ≤ 1000) && gvsB K ds its.toList
    | _ => false
  | _, _ => false
def gvsB (K : PySem.W.Frag) : List D → List Value → Bool
  | [], [] => true
  | d :: ds, v :: vs => gvB K d v && gvsB K ds vs
  | _, _ => false
end
mutual
theorem gvB_ok {G : Prog} {K : PySem.W.Frag} : ∀ (d : D) (u : Value), gvB K d u = true → ∃ v, RelV v u ∧ ∀ (c : Ct) (H : Hp), Rep (gOf G K) c H d v
  | .int i, .int j t, h => by
    have h : i = j := of_decide_eq_true h
    subst h
    exact ⟨.int i, ⟨t, rfl⟩, fun c H => by rw [Rep]⟩
  | .tup ds, .ref a, h => by
    unfold gvB at h
    split at h
    · rename_i od its n sl q
      rw [Bool.and_eq_true, decide_eq_true_eq] at h
      obtain ⟨vs, h1, h2⟩ := gvsB_ok (G := G) ds its.toList h.2
      refine ⟨.ref a, rfl, fun c H => ?_⟩
      rw [Rep]
      exact ⟨a, vs, rfl, .inr ⟨_, its, n, q, rfl, rfl, Nat.le_trans h.1 (by decide), h1⟩, h2 c H⟩
    · cases h
  | .non, u, h => by cases u <;> cases h
  | .bl _, u, h => by cases u <;> cases h
  | .str _, u, h => by cases u <;> cases h
  | .lst _, u, h => by cases u <;> cases h
  | .obj _ _, u, h => by cases u <;> cases h
  | .dic0, u, h => by cases u <;> cases h
  | .scr _, u, h => by cases u <;> cases h
  | .loc _, u, h => by cases u <;> cases h
  | .own _ _, u, h => by cases u <;> cases h
  | .new _, u, h => by cases u <;> cases h
  | .exn _ _, u, h => by cases u <;> cases h
  | .int i, .none, h => nomatch h
  | .int i, .bool _, h => nomatch h
  | .int i, .str _ _, h => nomatch h
  | .int i, .ref _, h => nomatch h
theorem gvsB_ok {G : Prog} {K : PySem.W.Frag} : ∀ (ds : List D) (us : List Value), gvsB K ds us = true → ∃ vs, Vals vs us ∧ ∀ (c : Ct) (H : Hp), Reps (gOf G K) c H ds vs
  | [], [], _ => ⟨[], .nil, fun c H => by rw [Reps]⟩
  | d :: ds, u :: us, h => by
    have h : (gvB K d u && gvsB K ds us) = true := h
    rw [Bool.and_eq_true] at h
    obtain ⟨v, h1, h2⟩ := gvB_ok (G := G) d u h.1
    obtain ⟨vs, k1, k2⟩ := gvsB_ok (G := G) ds us h.2
    exact ⟨v :: vs, .cons h1 k1, fun c H => by rw [Reps]; exact ⟨v, vs, rfl, h2 c H, k2 c H⟩⟩
  | [], _ :: _, h => nomatch h
  | _ :: _, [], h => nomatch h
end
def gloAB (G : Prog) (K : PySem.W.Frag) : Bool := G.glos.all fun p => match PySem.W.nsIn K mainGlobals p.1 with
  | some (some u) => gvB K p.2 u
  | _ => false
def statB (G : Prog) (K : PySem.W.Frag) : Bool := allC G (clsB G K) && freeNames.all (fun x => eqO (PySem.W.nsIn K mainGlobals x) (some none)) && isiAllB G K && gloAB G K
theorem lookup_mem {α : Type} {x : Str} {d : α} : ∀ {l : List (Str × α)}, l.lookup x = some d → (x, d) ∈ l
  | [], h => by cases h
  | (y, e) :: l, h => by
    rw [List.lookup_cons] at h
    split at h
    · rename_i q
      cases h
      rw [eq_of_beq q]
      exact List.mem_cons_self ..
    · exact List.mem_cons_of_mem _ (lookup_mem h)
theorem stat_of {G : Prog} {K : PySem.W.Frag} {h : Heap} {mg : Str → Option Value} (X : K.In h) (Gn : h.Ns mainGlobals mg) (hB : statB G K = true) : Stat G (gOf G K) mg := by
  unfold statB at hB
  simp only [Bool.and_eq_true] at hB
  obtain ⟨⟨⟨h1, h2⟩, h3⟩, h4⟩ := hB
  have at_ : ∀ {k c}, G.clss[k]? = some c → eqO (PySem.W.nsIn K mainGlobals c.name) (some (some (.ref (He.ga K c.name)))) = true ∧ decide (c.fields.length < 1000) = true ∧ (gOf G K).ca k = He.ga K c.name ∧ ∀ q ∈ c.ops, opK K (He.ga K c.name) (toOp q.1) = true := by
    intro k c hk
    have z := allC_at h1 hk
    unfold clsB at z
    simp only [Bool.and_eq_true] at z
    exact ⟨z.1.1.1, z.1.1.2, by show He.ga K (cnm G k) = _; rw [cnm_of hk], List.all_eq_true.mp z.1.2⟩
  have own : ∀ {k c}, G.clss[k]? = some c → c.exc = false → (Fa.cls c.name).ok K = true ∧ (∀ f ∈ c.fields, (Fa.noat c.name f).ok K = true) ∧ tyoB K (He.ga K c.name) = true ∧ subTB K (He.ga K c.name) = true ∧
      allC G (fun j d => d.exc || decide (k = j) || decide (PySem.W.subIn K (.ref (He.ga K d.name)) (.ref (He.ga K c.name)) = some false)) = true := by
    intro k c hk he
    have z := allC_at h1 hk
    unfold clsB at z
    rw [he, if_neg Bool.false_ne_true] at z
    simp only [Bool.and_eq_true] at z
    obtain ⟨_, ⟨⟨⟨⟨z1, z2⟩, z3⟩, z4⟩, z5⟩⟩ := z
    exact ⟨z1, List.all_eq_true.mp z2, z3, z4, z5⟩
  have exc : ∀ {k c}, G.clss[k]? = some c → c.exc = true → excCB K (He.ga K c.name) = true ∧ (∀ f ∈ c.fields, excAtB K (He.ga K c.name) f = true) ∧
      allC G (fun j d => !d.exc || decide (PySem.W.exmOne K (.ref (He.ga K c.name)) (.ref (He.ga K d.name)) = some (G.subB k j))) = true := by
    intro k c hk he
    have z := allC_at h1 hk
    unfold clsB at z
    rw [he, if_pos rfl] at z
    simp only [Bool.and_eq_true] at z
    obtain ⟨_, ⟨⟨⟨z1, z2⟩, z3⟩, z4⟩⟩ := z
    exact ⟨z1, List.all_eq_true.mp z2, z4⟩
  refine ⟨fun k c hk => ?_, fun k c hk => ?_, fun k hk => ?_, fun k c hk => ?_, fun k c f hk hc hf => ?_, fun k c f hk hc hf => ?_, fun k hk => ?_, fun k c q hk hq => ?_, fun k j hk hj => ?_, fun x hx => ?_, fun x d hxd => ?_, fun d q b hd hq hb => ?_, fun k j hk hj hne => ?_, fun k hk => ?_, fun k hk => ?_⟩
  · show (match G.clss[k]? with | some c => c.fields | none => []) = _; rw [hk]
  · obtain ⟨z1, z2, z3, _⟩ := at_ hk
    rw [z3]; exact PySem.W.mg_of X Gn (eqO_ok z1)
  · obtain ⟨c, hc, he⟩ := cls_some hk
    rw [(at_ hc).2.2.1]; exact He.cls_ok (own hc he).1
  · exact of_decide_eq_true (at_ hk).2.1
  · obtain ⟨c', hc', he⟩ := cls_some hk
    rw [hc] at hc'; cases hc'
    rw [(at_ hc).2.2.1]; exact He.noat_ok ((own hc he).2.1 f hf)
  · obtain ⟨c', hc', he⟩ := exc_some hk
    rw [hc] at hc'; cases hc'
    rw [(at_ hc).2.2.1]; exact excAtB_ok ((exc hc he).2.1 f hf)
  · obtain ⟨c, hc, he⟩ := exc_some hk
    rw [(at_ hc).2.2.1]; exact excCB_ok (exc hc he).1
  · obtain ⟨_, _, z3, z4⟩ := at_ hk
    rw [z3]; exact opK_ok (z4 q hq)
  · obtain ⟨c, hc, he⟩ := exc_some hk
    obtain ⟨d, hd, he2⟩ := exc_some hj
    rw [(at_ hc).2.2.1, (at_ hd).2.2.1]
    have z := allC_at (exc hc he).2.2 hd
    rw [he2] at z
    have z : (false || decide (PySem.W.exmOne K (.ref (He.ga K c.name)) (.ref (He.ga K d.name)) = some (G.subB k j))) = true := z
    rw [Bool.false_or] at z
    exact of_decide_eq_true z
  · exact PySem.W.mg_none_of X Gn (eqO_ok (List.all_eq_true.mp h2 x hx))
  · have z := List.all_eq_true.mp h4 (x, d) (lookup_mem hxd)
    dsimp only at z
    split at z
    · rename_i u q
      obtain ⟨v, k1, k2⟩ := gvB_ok (G := G) d u z
      exact ⟨u, v, PySem.W.mg_of X Gn q, k1, k2⟩
    · cases z
  · have z := List.all_eq_true.mp (List.all_eq_true.mp h3 (repD d) (rep_mem hd hb)) q (q_mem hq)
    rw [okD_rep, hd, isiB_rep, hb, tyV_rep] at z
    have z : (false || decide (PySem.W.kitOne K (tyV (gOf G K) d) (ckV (gOf G K) q) = some b)) = true := z
    rw [Bool.false_or] at z
    exact of_decide_eq_true z
  · obtain ⟨c, hc, he⟩ := cls_some hk
    obtain ⟨d, hd, he2⟩ := cls_some hj
    rw [(at_ hc).2.2.1, (at_ hd).2.2.1]
    have z := allC_at (own hc he).2.2.2.2 hd
    rw [he2] at z
    simp only [Bool.or_eq_true, decide_eq_true_eq] at z
    rcases z with (z | z) | z
    · cases z
    · exact absurd z hne
    · exact z
  · obtain ⟨c, hc, he⟩ := cls_some hk
    rw [(at_ hc).2.2.1]
    have z := (own hc he).2.2.2.1
    unfold subTB at z
    rw [Bool.and_eq_true] at z
    exact ⟨of_decide_eq_true z.1, of_decide_eq_true z.2⟩
  · obtain ⟨c, hc, he⟩ := cls_some hk
    rw [(at_ hc).2.2.1]; exact tyoB_ok (own hc he).2.2.1
theorem oex_of {G : Prog} {K : PySem.W.Frag} (hB : statB G K = true) {k : Nat} {c : ClsT} {f : Str} (hk : G.clss[k]? = some c) (he : c.exc = true) (hf : c.fields = [f]) : oexB K (He.ga K c.name) = true ∧ excAtB K (He.ga K c.name) f = true := by
  unfold statB at hB
  simp only [Bool.and_eq_true] at hB
  have z := allC_at hB.1.1.1 hk
  unfold clsB at z
  rw [he, if_pos rfl, hf] at z
  simp only [Bool.and_eq_true] at z
  obtain ⟨_, ⟨⟨⟨z1, z2⟩, z3⟩, z4⟩⟩ := z
  exact ⟨by simpa using z3, by simpa using z2⟩
/-! ### own special methods -/
def defAt (G : Prog) (f k : Nat) (nm : Str) : Bool := match G.defs[f]? with
  | some d => decide (d.cls = some k) && decide (d.name = nm)
  | none => false
theorem defAt_ok {G : Prog} {f k : Nat} {nm : Str} (h : defAt G f k nm = true) : ∃ d, G.defs[f]? = some d ∧ d.cls = some k ∧ d.name = nm := by
  unfold defAt at h
  split at h
  · rename_i d hd
    rw [Bool.and_eq_true, decide_eq_true_eq, decide_eq_true_eq] at h
    exact ⟨d, hd, h⟩
  · cases h
def oDef (G : Prog) (k : Nat) (c : ClsT) (nm : Str) : Option Nat → Bool
  | some f => !c.exc && defAt G f k nm
  | none => true
def mDef (G : Prog) (k : Nat) (c : ClsT) (p : Nat × Nat) : Option Str → Bool
  | some x => defAt G p.2 k x && !decide (x ∈ c.fields)
  | none => false
def wfB (G : Prog) : Bool := allC G fun k c => oDef G k c "__eq__" c.eq && oDef G k c "__neg__" c.neg && c.ops.all (fun p => !c.exc && defAt G p.2.1 k (PySem.dunder (toOp p.1).info.2) && defAt G p.2.2 k (PySem.dunderR (toOp p.1).info.2)) &&
  c.meths.all (fun p => !c.exc && mDef G k c p G.attrs[p.1]?)
theorem cls_of {G : Prog} {k : Nat} {c : ClsT} (hk : G.clss[k]? = some c) (h : (!c.exc) = true) : G.cls? k = true := by unfold Prog.cls?; rw [hk]; exact h
theorem wf_of {G : Prog} (h : wfB G = true) : Wf G := by
  have at_ : ∀ {k c}, G.clss[k]? = some c → oDef G k c "__eq__" c.eq = true ∧ oDef G k c "__neg__" c.neg = true ∧ (∀ p ∈ c.ops, (!c.exc && defAt G p.2.1 k (PySem.dunder (toOp p.1).info.2) && defAt G p.2.2 k (PySem.dunderR (toOp p.1).info.2)) = true) ∧
      ∀ p ∈ c.meths, (!c.exc && mDef G k c p G.attrs[p.1]?) = true := by
    intro k c hk
    have z := allC_at h hk
    simp only [Bool.and_eq_true] at z
    obtain ⟨⟨⟨z1, z2⟩, z3⟩, z4⟩ := z
    exact ⟨z1, z2, List.all_eq_true.mp (by simpa only [Bool.and_eq_true] using z3), List.all_eq_true.mp (by simpa only [Bool.and_eq_true] using z4)⟩
  refine ⟨fun k c f hk hf => ?_, fun k c f hk hf => ?_, fun k c p hk hp => ?_, fun k c p hk hp => ?_⟩
  · have z := (at_ hk).1
    rw [hf] at z
    have z : (!c.exc && defAt G f k "__eq__") = true := z
    rw [Bool.and_eq_true] at z
    exact ⟨cls_of hk z.1, defAt_ok z.2⟩
  · have z := (at_ hk).2.1
    rw [hf] at z
    have z : (!c.exc && defAt G f k "__neg__") = true := z
    rw [Bool.and_eq_true] at z
    exact ⟨cls_of hk z.1, defAt_ok z.2⟩
  · have z := (at_ hk).2.2.1 p hp
    simp only [Bool.and_eq_true] at z
    exact ⟨cls_of hk z.1.1, defAt_ok z.1.2, defAt_ok z.2⟩
  · have z := (at_ hk).2.2.2 p hp
    rw [Bool.and_eq_true] at z
    obtain ⟨z1, z2⟩ := z
    cases hx : G.attrs[p.1]? with
    | none => rw [hx] at z2; cases z2
    | some x =>
      rw [hx] at z2
      have z2 : (defAt G p.2 k x && !decide (x ∈ c.fields)) = true := z2
      rw [Bool.and_eq_true] at z2
      obtain ⟨d, h1, h2, h3⟩ := defAt_ok z2.1
      exact ⟨cls_of hk z1, d, x, h1, h2, rfl, h3, by simpa using z2.2⟩
end Tk
/-! Core 31: all defs keep their promises; the end. -/
namespace Tk
open PySem PySem.Spec PyProof.Rows L2
open He (eqO eqO_ok ba Fa DefD)

def BindsP (dd : DefD) (ps : List Str) : Prop := ∀ (kV doc pm : Value) (an : Option Addr) (cdv ct : Value) (us : List Value), us.length = ps.length → bindArgs (PySem.W.fnOf dd.name dd.qual dd.params dd.body dd.scope .none kV doc pm an cdv ct) ⟨us, []⟩ = pure (ps.zip us)
/-- where a def stands -/
def atOf (G : Prog) (d : DefT) : Str × Option Str := match d.cls with
  | none => (d.name, none)
  | some k => (cnm G k, some d.name)
/-- the def of the small language is the text's -/
structure DefW (G : Prog) (d : DefT) (dd : DefD) : Prop where
  at_ : dd.at_ = atOf G d
  dfl : dd.dfl = []
  sc : FnScope d.N (d.N.take d.np) dd.scope
  np : (d.N.take d.np).length = d.np
  ck : ckB G d.N dd.scope true d.body dd.body = true
  bind : BindsP dd (d.N.take d.np)
inductive AllW (G : Prog) : List DefT → List DefD → Prop where
  | nil : AllW G [] []
  | cons {d : DefT} {dd : DefD} {ds : List DefT} {dds : List DefD} (h : DefW G d dd) (r : AllW G ds dds) : AllW G (d :: ds) (dd :: dds)
theorem AllW.at {G : Prog} : ∀ {ds : List DefT} {dds : List DefD}, AllW G ds dds → ∀ {f : Nat} {d : DefT}, ds[f]? = some d → ∃ dd ∈ dds, DefW G d dd
  | _, _, .nil, f, d, h => by simp at h
  | _, _, .cons h r, 0, d, e => by
    simp at e
    subst e
    exact ⟨_, List.mem_cons_self, h⟩
  | _, _, .cons h r, f + 1, d, e => by
    simp at e
    obtain ⟨dd, h1, h2⟩ := AllW.at r e
    exact ⟨dd, List.mem_cons_of_mem _ h1, h2⟩
/-- an exception's __init__ -/
structure ExW (c : ClsT) (f : Str) (dd : DefD) : Prop where
  at_ : dd.at_ = (c.name, some ("__init__" : Str))
  dfl : dd.dfl = []
  bd : ∃ pn p1 p2 p3 p4, dd.body = [.Assign [.Attribute (.Name "self" p1) f p2] (.Name pn p3) p4] ∧ FnScope ["self", pn] ["self", pn] dd.scope ∧ visB dd.scope "self" = true ∧ visB dd.scope pn = true ∧ nmOk pn = true ∧ BindsP dd ["self", pn]
def callB (G : Prog) (K : PySem.W.Frag) : Bool := G.defs.all fun d => match d.cls with
  | none => eqO (PySem.W.nsIn K mainGlobals d.name) (some (some (.ref (He.ga K d.name))))
  | some k => (Fa.meth (cnm G k) d.name).ok K && (!decide (d.name = ("__init__" : Str)) || (Fa.mkr (cnm G k)).ok K)
section
variable {G : Prog} {K : PySem.W.Frag} {h : Heap} {mg : Str → Option Value} {P : Program} {w : World} {base : Heap} {fn : List DefD}
theorem exinit_ok {c : ClsT} {f : Str} {dd : DefD} {fI : Addr} {fd : FuncData} {C : Addr} (T : OexC K C) (no : PySem.W.findIn K (.ref C) f = some none) (F : FunD K dd.name dd.qual dd.params dd.body dd.scope (dd.dvs K) (dd.kws K) fI fd) (W : ExW c f dd) :
    ∃ pn, FnOk P w K mg base (L2.CX P w) 1 fI fd ["self", pn] (spO C f) ∧ L2.Binds K fd ["self", pn] [] := by
  obtain ⟨pn, p1, p2, p3, p4, hb, Sc, v1, v2, hm, bd⟩ := W.bd
  have F' := F
  have e : dd.dvs K = [] := by unfold DefD.dvs; rw [W.dfl]; rfl
  rw [e] at F'
  refine ⟨pn, F.ok (k := 0) Sc (fun vs H Q E h => by obtain ⟨a, v, rfl, _⟩ := h; rfl) fun cdv A outer s H vs Q E hr h => ?_, F'.bindsN bd⟩
  obtain ⟨a, v, rfl, ha, hq⟩ := h
  let X := cxOf (L2.CX P w) P w K mg base ["self", pn] dd.qual dd.scope fI cdv A outer s H E
  refine ⟨tSeq (tOst K f (tVar 0) (tVar 1)) tNext, ?_, ?_⟩
  · rw [hb]
    exact pss_cons (ps_ost (X := X) (pe_var (i := 0) rfl (vis_of v1) (by decide) (by decide)) (pe_var (i := 1) rfl (vis_of v2) (nm_of hm).1 (nm_of hm).2) sw_attr) pss_nil
  · exact ⟨v, rfl, .ref a, rfl, a, C, rfl, T, no, .inl ⟨ha, fun dx h1 h2 => hq dx h1 h2⟩⟩
theorem excs_all (hB : statB G K = true) (hF : ∀ dd ∈ fn, ∃ fd, FunD K dd.name dd.qual dd.params dd.body dd.scope (dd.dvs K) (dd.kws K) (He.fAd K dd.at_) fd)
    (hW : ∀ (k : Nat) (c : ClsT) (f : Str), G.clss[k]? = some c → c.exc = true → c.fields = [f] → ∃ dd ∈ fn, ExW c f dd) : Excs G (gOf G K) P w mg base := by
  intro k c f hk he hf
  obtain ⟨h1, h2⟩ := oex_of hB hk he hf
  obtain ⟨T, h3, h4⟩ := oexB_ok h1
  obtain ⟨dd, hd, W⟩ := hW k c f hk he hf
  obtain ⟨fd, F⟩ := hF dd hd
  have e : He.fAd K dd.at_ = He.ma K (He.ga K c.name) "__init__" := by rw [W.at_]; rfl
  rw [e] at F
  have ec : (gOf G K).ca k = He.ga K c.name := by show He.ga K (cnm G k) = _; rw [cnm_of hk]
  rw [ec]
  obtain ⟨pn, F1, hb⟩ := exinit_ok (P := P) (w := w) (mg := mg) (base := base) T (excAtB_ok h2).no F W
  exact ⟨T, _, fd, pn, h3, h4, F1, hb⟩
theorem calls_all (hS : statB G K = true) (hC : callB G K = true) (hwf : wfB G = true) (X : K.In h) (Gn : h.Ns mainGlobals mg) (hF : ∀ dd ∈ fn, ∃ fd, FunD K dd.name dd.qual dd.params dd.body dd.scope (dd.dvs K) (dd.kws K) (He.fAd K dd.at_) fd)
    (hW : AllW G G.defs fnW) (hsub : ∀ dd ∈ fnW, dd ∈ fn) (hX : ∀ (k : Nat) (c : ClsT) (f : Str), G.clss[k]? = some c → c.exc = true → c.fields = [f] → ∃ dd ∈ fn, ExW c f dd) :
    ∀ n, Calls G (gOf G K) P w mg base n := by
  have st := stat_of X Gn hS
  have wf := wf_of hwf
  have ex := excs_all (P := P) (w := w) (mg := mg) (base := base) hS hF hX
  intro n
  induction n with
  | zero =>
    intro f d hd
    obtain ⟨dd, hdd, W⟩ := hW.at hd
    obtain ⟨fd, F⟩ := hF dd (hsub dd hdd)
    have F' := F
    have e : dd.dvs K = [] := by unfold DefD.dvs; rw [W.dfl]; rfl
    rw [e] at F'
    have no : ∀ {vs H Q E}, ¬ SpF (gOf G K) (Tk.call G 0) d.np f vs H Q E := fun ⟨_, _, _, _, _, _, _, z⟩ => z
    refine ⟨_, fd, d.N.take d.np, ⟨fun vs H Q E h => (no h).elim, fun A outer s H args us vs Q E _ _ _ _ h => (no h).elim⟩, F'.bindsN W.bind, W.np, F.kp, ?_⟩
    have z := List.all_eq_true.mp hC d (List.mem_of_getElem? hd)
    rw [W.at_]
    unfold atOf
    cases hc : d.cls with
    | none =>
      rw [hc] at z
      exact ⟨fun _ => PySem.W.mg_of X Gn (eqO_ok z), fun k e => by cases e⟩
    | some k =>
      rw [hc] at z
      have z : ((Fa.meth (cnm G k) d.name).ok K && (!decide (d.name = ("__init__" : Str)) || (Fa.mkr (cnm G k)).ok K)) = true := z
      rw [Bool.and_eq_true] at z
      refine ⟨fun e => (by cases e), fun j e => ?_⟩
      cases e
      refine ⟨He.meth_ok z.1, fun e => ?_⟩
      have z2 := z.2
      rw [e] at z2 ⊢
      have z3 : (Fa.mkr (cnm G k)).ok K = true := by simpa using z2
      exact He.mkr_ok z3
  | succ n ih =>
    intro f d hd
    obtain ⟨dd, hdd, W⟩ := hW.at hd
    obtain ⟨fd, F⟩ := hF dd (hsub dd hdd)
    have F' := F
    have e : dd.dvs K = [] := by unfold DefD.dvs; rw [W.dfl]; rfl
    rw [e] at F'
    refine ⟨_, fd, d.N.take d.np, def_ok (g := gOf G K) F W.sc hd W.np W.ck st wf ih ex, F'.bindsN W.bind, W.np, F.kp, ?_⟩
    have z := List.all_eq_true.mp hC d (List.mem_of_getElem? hd)
    rw [W.at_]
    unfold atOf
    cases hc : d.cls with
    | none =>
      rw [hc] at z
      exact ⟨fun _ => PySem.W.mg_of X Gn (eqO_ok z), fun k e => by cases e⟩
    | some k =>
      rw [hc] at z
      have z : ((Fa.meth (cnm G k) d.name).ok K && (!decide (d.name = ("__init__" : Str)) || (Fa.mkr (cnm G k)).ok K)) = true := z
      rw [Bool.and_eq_true] at z
      refine ⟨fun e => (by cases e), fun j e => ?_⟩
      cases e
      refine ⟨He.meth_ok z.1, fun e => ?_⟩
      have z2 := z.2
      rw [e] at z2 ⊢
      have z3 : (Fa.mkr (cnm G k)).ok K = true := by simpa using z2
      exact He.mkr_ok z3
end
/-- the end of a law -/
theorem walk_core {l : PySem.W.OpenLaw} {m N f : Nat} {q : Program} {loose : List Str} {XP : (Str → Option Value) → Heap → Prop} {YP : World → Heap → Prop} {d : DefRec} {x : Str} {G : Prog}
    (hn : l.most = some m) (hn2 : m ≤ sizeLine) (hdf : d.params.defaults = []) (hr : Room (lv N) callerA)
    (F : ∀ (w : World) (mg : Str → Option Value) (fa : Addr) (h : Heap), YP w h → h.Ns mainGlobals mg → mg d.name = some (.ref fa) →
      ∃ (K : PySem.W.Frag) (fd : FuncData), K.In h ∧ (∀ (s : Shared) (u : Value), BindsTo s fd ⟨[u], []⟩ [(x, u)]) ∧
        ∀ base : Heap, K.In base → base.Ns mainGlobals mg → FnOk l.prog w K mg base (L2.CX l.prog w) (lv N) fa fd [x] (SpF (gOf G K) (Tk.call G N) 1 f))
    (law : ∀ ns : List Int, ns.length ≤ m → (∀ z ∈ ns, Builtin.Int.intBits z ≤ 1048576) → ∃ S, Tk.call G N f [.scr (ns.map D.int)] [] = .ok (.bl true) S) :
    PySem.W.WalkO q loose XP YP l.row.toRowW d [] (fun f vs => PySem.call f vs) := by
  refine Att.attach_callB hn hdf fun w s₀ s₁ mg mb fa o pm cd doc a vs ns Gr Y ho hd hcd hmg hobj hints hlen hbits hg => ?_
  obtain ⟨K, fd, KX, hb, hF⟩ := F w mg fa _ Y Gr.T.g hmg
  refine law_call KX Gr.T.g Gr.T.b Gr.T.builtins Gr.T.nolimit hg hobj hints (Nat.le_trans hlen hn2) hr hF hb (fun H hO hS => ?_) fun H e s' h => ?_
  · obtain ⟨S, hl⟩ := law ns hlen hbits
    have intsR : ∀ (c : Ct) (ns : List Int), Reps (gOf G K) c H (ns.map D.int) (ns.map V.int) := by
      intro c ns
      induction ns with
      | nil => exact Reps.nil
      | cons z r ih => exact Reps.cons (by rw [Rep]) ih
    refine ⟨rfl, ⟨[], [], none⟩, [], [.scr (ns.map D.int)], rfl, ⟨List.nodup_nil, rfl, fun a h => by simp at h, fun k ce a h => by simp at h⟩, Reps.cons ?_ Reps.nil, ?_⟩
    · rw [Rep]
      refine ⟨a, _, rfl, ?_, intsR _ ns⟩
      rcases hS with hS | hS
      · exact .inl ⟨hS, by simp, by simp⟩
      · exact .inr hS
    · rw [hl]
      intro v H' c' gg
      have hv : Rep (gOf G K) c' H' (.bl true) v := gg.r
      rw [Rep] at hv
      exact hv
  · obtain ⟨_, _, _, _, _, _, _, _, _, _, _, _, z⟩ := h
    exact z
end Tk
/-! Core 32: the law's def, from the head's facts. -/
namespace Tk
open PySem PySem.Spec PyProof.Rows L2
open He (DefD)
theorem law_facts {G : Prog} {K : PySem.W.Frag} {h : Heap} {mg : Str → Option Value} {P : Program} {w : World} {fnW fnX : List DefD} {fa : Addr} {N f : Nat} {d : DefT} {x : Str} (X : K.In h) (Gn : h.Ns mainGlobals mg) (hm : mg ("law" : Str) = some (.ref fa))
    (c : He.SaysD [] (fnW ++ fnX) K) (hB : (statB G K && callB G K) = true) (hwf : wfB G = true) (hW : AllW G G.defs fnW) (hX : ∀ (k : Nat) (c : ClsT) (f : Str), G.clss[k]? = some c → c.exc = true → c.fields = [f] → ∃ dd ∈ fnW ++ fnX, ExW c f dd)
    (hd : G.defs[f]? = some d) (hn : d.name = ("law" : Str)) (hc : d.cls = none) (hp : d.N.take d.np = [x]) (hnp : d.np = 1) :
    ∃ (K : PySem.W.Frag) (fd : FuncData), K.In h ∧ (∀ (s : Shared) (u : Value), BindsTo s fd ⟨[u], []⟩ [(x, u)]) ∧
        ∀ base : Heap, K.In base → base.Ns mainGlobals mg → FnOk P w K mg base (L2.CX P w) (lv (N + 1)) fa fd [x] (SpF (gOf G K) (Tk.call G (N + 1)) 1 f) := by
  rw [Bool.and_eq_true] at hB
  have hF : ∀ dd ∈ fnW ++ fnX, ∃ fd, FunD K dd.name dd.qual dd.params dd.body dd.scope (dd.dvs K) (dd.kws K) (He.fAd K dd.at_) fd := fun dd h => He.SaysD.defs c h
  obtain ⟨dd, hdd, W⟩ := hW.at hd
  obtain ⟨fd, F⟩ := hF dd (List.mem_append_left _ hdd)
  have F' := F
  have e : dd.dvs K = [] := by unfold DefD.dvs; rw [W.dfl]; rfl
  rw [e] at F'
  have ea : He.fAd K dd.at_ = He.ga K "law" := by rw [W.at_]; unfold atOf; rw [hc]; show He.ga K d.name = _; rw [hn]
  have em : mg ("law" : Str) = some (.ref (He.ga K "law")) := by
    have z := List.all_eq_true.mp hB.2 d (List.mem_of_getElem? hd)
    rw [hc] at z
    have z2 := PySem.W.mg_of X Gn (He.eqO_ok z)
    rw [hn] at z2; exact z2
  have efa : fa = He.ga K "law" := by
    rw [hm] at em
    exact Value.ref.inj (Option.some.inj em)
  have hb := FunD.bindsA (ps := d.N.take d.np) F' W.bind
  refine ⟨K, fd, X, fun s u => ?_, fun base hKb hGb => ?_⟩
  · have := hb s [u] (by rw [hp]; rfl)
    rw [hp] at this
    exact this
  · have st := stat_of X Gn hB.1
    have ca := calls_all (P := P) (w := w) (base := base) hB.1 hB.2 hwf X Gn hF hW (fun dd h => List.mem_append_left _ h) hX N
    have ex := excs_all (P := P) (w := w) (mg := mg) (base := base) hB.1 hF hX
    have z := def_ok (g := gOf G K) (G := G) (n := N) F W.sc hd W.np W.ck st (wf_of hwf) ca ex
    rw [hp, hnp, ea, ← efa] at z
    exact z
end Tk
/-! Core 39: a Hook that looks at the heap breadth first, each object once. -/
namespace Tk
open PySem PySem.Spec PyProof.Rows L2
/-- those of some addresses that were not seen, put in front of what is new and of what was seen; a number's bits tell what was seen -/
def fresh : List Addr → List Addr → List Addr → Nat → List Addr × List Addr × Nat
  | [], nw, seen, m => (nw, seen, m)
  | a :: r, nw, seen, m => bif Nat.beq (Nat.land (Nat.shiftRight m a) 1) 1 then fresh r nw seen m else fresh r (a :: nw) (a :: seen) (Nat.lor m (Nat.shiftLeft 1 a))
def refsAt (g : Addr → Option Obj) (a : Addr) : List Addr := match g a with
  | some o => He.refsD o
  | none => []
/-- a ring of addresses: what it names -/
def ring (g : Addr → Option Obj) : List Addr → List Addr → List Addr → Nat → List Addr × List Addr × Nat
  | [], nw, seen, m => (nw, seen, m)
  | a :: r, nw, seen, m => match fresh (refsAt g a) nw seen m with
    | (nw', seen', m') => ring g r nw' seen' m'
def rings (g : Addr → Option Obj) : Nat → List Addr → List Addr → Nat → List Addr
  | 0, _, seen, _ => seen
  | n + 1, fr, seen, m => match ring g fr [] seen m with
    | (nw, seen', m') => rings g n nw seen' m'
def asB (g : Addr → Option Obj) (n : Nat) : List Addr := rings g n [mainGlobals] [mainGlobals] (Nat.shiftLeft 1 mainGlobals)
def obsB (n : Nat) (fn : List He.DefD) (ex : PySem.W.Frag → Bool) (g : Addr → Option Obj) : He.AlX := (fun K => (He.obsT [] fn [] K, ex K)) (He.frT g (asB g n))
def hookB (n : Nat) (fn : List He.DefD) (ex : PySem.W.Frag → Bool) : PySem.W.Hook where
  α := He.AlX
  obs := fun s => obsB n fn ex s.heap.get?
  val := fun w => (He.valT fn [] w, true)
  says := fun w h => ∃ K : PySem.W.Frag, K.In h ∧ He.SaysX [] fn [] [] ex w h K
  of := fun _ _ e => ⟨_, He.frT_in, ⟨congrArg (fun z : He.AlX => z.1) e, congrArg (fun z : He.AlX => z.2) e, fun p hp => (nomatch hp), fun p hp => (nomatch hp), fun p hp => (nomatch hp)⟩⟩
  keeps := fun _ _ _ ⟨K, hK, c⟩ k => ⟨K, PySem.W.Frag.In.keeps hK k, ⟨c.t, c.more, c.hd, c.out, fun p hp => (nomatch hp)⟩⟩
theorem obsB_eq {n : Nat} {fn : List He.DefD} {ex : PySem.W.Frag → Bool} {g : Addr → Option Obj} {s : Shared} (h : ∀ a, g a = s.heap.get? a) : obsB n fn ex g = (hookB n fn ex).obs s := by
  have e : g = s.heap.get? := funext h
  rw [e]
  rfl
/-- the run's parts, each by itself -/
theorem run_comb {S β : Type} {o : Option S} {lk : S → Bool} {sn : S → β} {Kf : S → PySem.W.Frag} {fn : List He.DefD} {ex : PySem.W.Frag → Bool} {gx : β} {w : World} (h1 : o.map (fun s => (lk s, sn s)) = some (true, gx)) (h2 : o.map (fun s => ex (Kf s)) = some true)
    (h3 : o.map (fun s => fn.all fun d => d.ok (Kf s)) = some true) (h4 : o.map (fun s => fn.map fun d => He.fnW (Kf s) d.at_) = some (fn.map He.DefD.val)) :
    o.map (fun s => (lk s, sn s, (fun K => ((He.obsT [] fn [] K, ex K) : He.AlX)) (Kf s))) = some (true, gx, ((He.valT fn [] w, true) : He.AlX)) := by
  cases o with
  | none => cases h1
  | some s =>
    have h1 := Option.some.inj h1
    have h2 := Option.some.inj h2
    have h3 := Option.some.inj h3
    have h4 := Option.some.inj h4
    injection h1 with e1 e2
    show some (lk s, sn s, ((((([] : List He.Fa).all fun f => f.ok (Kf s)) && fn.all fun d => d.ok (Kf s), fn.map fun d => He.fnW (Kf s) d.at_), []), ex (Kf s))) = _
    have h2 : ex (Kf s) = true := h2
    have h3 : (fn.all fun d => d.ok (Kf s)) = true := h3
    have h4 : (fn.map fun d => He.fnW (Kf s) d.at_) = fn.map He.DefD.val := h4
    rw [e1, e2, h2, h3, h4]
    rfl
theorem all_take {α : Type} (n : Nat) (l : List α) (p : α → Bool) : l.all p = ((l.take n).all p && (l.drop n).all p) := by
  rw [← List.all_append, List.take_append_drop]
theorem map_take {α γ : Type} (n : Nat) (l : List α) (f : α → γ) : l.map f = (l.take n).map f ++ (l.drop n).map f := by
  rw [← List.map_append, List.take_append_drop]
/-- the run's parts, the written defs in two halves -/
theorem run_comb6 (n : Nat) {S β : Type} {o : Option S} {lk : S → Bool} {sn : S → β} {Kf : S → PySem.W.Frag} {fn : List He.DefD} {ex : PySem.W.Frag → Bool} {gx : β} {w : World} (h1 : o.map (fun s => (lk s, sn s)) = some (true, gx)) (h2 : o.map (fun s => ex (Kf s)) = some true)
    (h3 : o.map (fun s => (fn.take n).all fun d => d.ok (Kf s)) = some true) (g3 : o.map (fun s => (fn.drop n).all fun d => d.ok (Kf s)) = some true)
    (h4 : o.map (fun s => (fn.take n).map fun d => He.fnW (Kf s) d.at_) = some ((fn.take n).map He.DefD.val)) (g4 : o.map (fun s => (fn.drop n).map fun d => He.fnW (Kf s) d.at_) = some ((fn.drop n).map He.DefD.val)) :
    o.map (fun s => (lk s, sn s, (fun K => ((He.obsT [] fn [] K, ex K) : He.AlX)) (Kf s))) = some (true, gx, ((He.valT fn [] w, true) : He.AlX)) := by
  refine run_comb h1 h2 ?_ ?_
  · cases o with
    | none => cases h1
    | some s =>
      have a : ((fn.take n).all fun (d : He.DefD) => d.ok (Kf s)) = true := Option.some.inj h3
      have b : ((fn.drop n).all fun (d : He.DefD) => d.ok (Kf s)) = true := Option.some.inj g3
      show some (fn.all fun (d : He.DefD) => d.ok (Kf s)) = some true
      rw [all_take n fn, a, b]
      rfl
  · cases o with
    | none => cases h1
    | some s =>
      have a : ((fn.take n).map fun (d : He.DefD) => He.fnW (Kf s) d.at_) = (fn.take n).map He.DefD.val := Option.some.inj h4
      have b : ((fn.drop n).map fun (d : He.DefD) => He.fnW (Kf s) d.at_) = (fn.drop n).map He.DefD.val := Option.some.inj g4
      show some (fn.map fun (d : He.DefD) => He.fnW (Kf s) d.at_) = some (fn.map He.DefD.val)
      rw [map_take n fn, map_take n fn He.DefD.val, a, b]
end Tk
namespace Pg
open Tk PySem
/-- 0: is_integer -/
def b0 : CB := (.cons (.ret (.and (.cons (.isi (.var 0) (.ty "int")) (.cons (.not (.isi (.var 0) (.ty "bool"))) .nil))))
 .nil)
/-- 1: common -/
def b1 : CB := (.cons (.set 0 (.blt .abs (.cons (.var 0) .nil)))
 (.cons (.set 1 (.blt .abs (.cons (.var 1) .nil)))
 (.cons (.while_ (.cmp .gt (.var 1) (.int 0)) (.cons (.par 0 1 (.var 1) (.bin .mod (.var 0) (.var 1)))
 .nil))
 (.cons (.ret (.var 0))
 .nil))))
/-- 2: whole_root -/
def b2 : CB := (.cons (.ite (.cmp .eq (.var 0) (.int 0)) (.cons (.ret (.int 0))
 .nil) .nil)
 (.cons (.set 1 (.int 1))
 (.cons (.while_ (.cmp .le (.bin .mul (.var 1) (.var 1)) (.var 0)) (.cons (.set 1 (.bin .mul (.var 1) (.int 2)))
 .nil))
 (.cons (.set 2 (.bin .fdiv (.bin .add (.var 1) (.bin .fdiv (.var 0) (.var 1))) (.int 2)))
 (.cons (.while_ (.cmp .lt (.var 2) (.var 1)) (.cons (.set 1 (.var 2))
 (.cons (.set 2 (.bin .fdiv (.bin .add (.var 1) (.bin .fdiv (.var 0) (.var 1))) (.int 2)))
 .nil)))
 (.cons (.ret (.var 1))
 .nil))))))
/-- 3: Root.__init__ -/
def b3 : CB := (.cons (.for_ (.nm 4) (.seq (.tup (.cons (.var 1) (.cons (.var 2) (.cons (.var 3) .nil))))) (.cons (.ite (.not (.call 0 (.cons (.var 4) .nil))) (.cons (.raise 1 (.cons (.var 4) .nil))
 .nil) .nil)
 .nil))
 (.cons (.ite (.cmp .eq (.var 3) (.int 0)) (.cons (.raise 1 (.cons (.var 3) .nil))
 .nil) .nil)
 (.cons (.set 5 (.call 1 (.cons (.call 1 (.cons (.var 1) (.cons (.var 2) .nil))) (.cons (.var 3) .nil))))
 (.cons (.ite (.cmp .lt (.var 3) (.int 0)) (.cons (.set 5 (.neg (.var 5)))
 .nil) .nil)
 (.cons (.seta (.var 0) 0 (.bin .fdiv (.var 1) (.var 5)))
 (.cons (.seta (.var 0) 1 (.bin .fdiv (.var 2) (.var 5)))
 (.cons (.seta (.var 0) 2 (.bin .fdiv (.var 3) (.var 5)))
 .nil)))))))
/-- 4: Root.__eq__ -/
def b4 : CB := (.cons (.ite (.isi (.var 1) (.own 5)) (.cons (.ret (.and (.cons (.cmp .eq (.attr (.var 0) 0) (.attr (.var 1) 0)) (.cons (.cmp .eq (.attr (.var 0) 1) (.attr (.var 1) 1)) (.cons (.cmp .eq (.attr (.var 0) 2) (.attr (.var 1) 2)) .nil)))))
 .nil) .nil)
 (.cons (.ret (.and (.cons (.call 0 (.cons (.var 1) .nil)) (.cons (.cmp .eq (.attr (.var 0) 1) (.int 0)) (.cons (.cmp .eq (.attr (.var 0) 2) (.int 1)) (.cons (.cmp .eq (.attr (.var 0) 0) (.var 1)) .nil))))))
 .nil))
/-- 5: Root.__neg__ -/
def b5 : CB := (.cons (.ret (.make 5 3 (.cons (.neg (.attr (.var 0) 0)) (.cons (.neg (.attr (.var 0) 1)) (.cons (.attr (.var 0) 2) .nil)))))
 .nil)
/-- 6: Root.__add__ -/
def b6 : CB := (.cons (.ite (.call 0 (.cons (.var 1) .nil)) (.cons (.ret (.make 5 3 (.cons (.bin .add (.attr (.var 0) 0) (.bin .mul (.var 1) (.attr (.var 0) 2))) (.cons (.attr (.var 0) 1) (.cons (.attr (.var 0) 2) .nil)))))
 .nil) .nil)
 (.cons (.ite (.not (.isi (.var 1) (.own 5))) (.cons (.ret .never)
 .nil) .nil)
 (.cons (.set 2 (.bin .add (.bin .mul (.attr (.var 0) 0) (.attr (.var 1) 2)) (.bin .mul (.attr (.var 1) 0) (.attr (.var 0) 2))))
 (.cons (.ret (.make 5 3 (.cons (.var 2) (.cons (.bin .add (.bin .mul (.attr (.var 0) 1) (.attr (.var 1) 2)) (.bin .mul (.attr (.var 1) 1) (.attr (.var 0) 2))) (.cons (.bin .mul (.attr (.var 0) 2) (.attr (.var 1) 2)) .nil)))))
 .nil))))
/-- 7: Root.__radd__ -/
def b7 : CB := (.cons (.ite (.not (.call 0 (.cons (.var 1) .nil))) (.cons (.ret .never)
 .nil) .nil)
 (.cons (.ret (.bin .add (.var 0) (.var 1)))
 .nil))
/-- 8: Root.__sub__ -/
def b8 : CB := (.cons (.ite (.call 0 (.cons (.var 1) .nil)) (.cons (.ret (.make 5 3 (.cons (.bin .sub (.attr (.var 0) 0) (.bin .mul (.var 1) (.attr (.var 0) 2))) (.cons (.attr (.var 0) 1) (.cons (.attr (.var 0) 2) .nil)))))
 .nil) .nil)
 (.cons (.ite (.not (.isi (.var 1) (.own 5))) (.cons (.ret .never)
 .nil) .nil)
 (.cons (.set 2 (.bin .sub (.bin .mul (.attr (.var 0) 0) (.attr (.var 1) 2)) (.bin .mul (.attr (.var 1) 0) (.attr (.var 0) 2))))
 (.cons (.ret (.make 5 3 (.cons (.var 2) (.cons (.bin .sub (.bin .mul (.attr (.var 0) 1) (.attr (.var 1) 2)) (.bin .mul (.attr (.var 1) 1) (.attr (.var 0) 2))) (.cons (.bin .mul (.attr (.var 0) 2) (.attr (.var 1) 2)) .nil)))))
 .nil))))
/-- 9: Root.__rsub__ -/
def b9 : CB := (.cons (.ite (.not (.call 0 (.cons (.var 1) .nil))) (.cons (.ret .never)
 .nil) .nil)
 (.cons (.ret (.make 5 3 (.cons (.bin .sub (.bin .mul (.var 1) (.attr (.var 0) 2)) (.attr (.var 0) 0)) (.cons (.neg (.attr (.var 0) 1)) (.cons (.attr (.var 0) 2) .nil)))))
 .nil))
/-- 10: Root.__mul__ -/
def b10 : CB := (.cons (.ite (.call 0 (.cons (.var 1) .nil)) (.cons (.ret (.make 5 3 (.cons (.bin .mul (.attr (.var 0) 0) (.var 1)) (.cons (.bin .mul (.attr (.var 0) 1) (.var 1)) (.cons (.attr (.var 0) 2) .nil)))))
 .nil) .nil)
 (.cons (.ite (.not (.isi (.var 1) (.own 5))) (.cons (.ret .never)
 .nil) .nil)
 (.cons (.set 2 (.bin .add (.bin .mul (.attr (.var 0) 0) (.attr (.var 1) 0)) (.bin .mul (.bin .mul (.int 2) (.attr (.var 0) 1)) (.attr (.var 1) 1))))
 (.cons (.ret (.make 5 3 (.cons (.var 2) (.cons (.bin .add (.bin .mul (.attr (.var 0) 0) (.attr (.var 1) 1)) (.bin .mul (.attr (.var 0) 1) (.attr (.var 1) 0))) (.cons (.bin .mul (.attr (.var 0) 2) (.attr (.var 1) 2)) .nil)))))
 .nil))))
/-- 11: Root.__rmul__ -/
def b11 : CB := (.cons (.ite (.not (.call 0 (.cons (.var 1) .nil))) (.cons (.ret .never)
 .nil) .nil)
 (.cons (.ret (.bin .mul (.var 0) (.var 1)))
 .nil))
/-- 12: Root.whole -/
def b12 : CB := (.cons (.set 1 (.call 2 (.cons (.bin .mul (.bin .mul (.int 2) (.attr (.var 0) 1)) (.attr (.var 0) 1)) .nil)))
 (.cons (.set 2 (.ite (.cmp .ge (.attr (.var 0) 1) (.int 0)) (.var 1) (.bin .sub (.neg (.var 1)) (.int 1))))
 (.cons (.ret (.bin .fdiv (.bin .add (.attr (.var 0) 0) (.var 2)) (.attr (.var 0) 2)))
 .nil)))
/-- 13: is_number -/
def b13 : CB := (.cons (.ret (.or (.cons (.isi (.var 0) (.own 5)) (.cons (.call 0 (.cons (.var 0) .nil)) .nil))))
 .nil)
/-- 14: as_root -/
def b14 : CB := (.cons (.ret (.ite (.isi (.var 0) (.own 5)) (.var 0) (.make 5 3 (.cons (.var 0) (.cons (.int 0) (.cons (.int 1) .nil))))))
 .nil)
/-- 15: is_point -/
def b15 : CB := (.cons (.ret (.and (.cons (.isi (.var 0) (.ty "tuple")) (.cons (.cmp .eq (.blt .len (.cons (.var 0) .nil)) (.int 2)) (.cons (.call 13 (.cons (.ix (.var 0) (.int 0)) .nil)) (.cons (.call 13 (.cons (.ix (.var 0) (.int 1)) .nil)) .nil))))))
 .nil)
/-- 16: check_point -/
def b16 : CB := (.cons (.ite (.not (.call 15 (.cons (.var 0) .nil))) (.cons (.raise 2 (.cons (.var 0) .nil))
 .nil) .nil)
 (.cons (.ret (.call 17 (.cons (.var 0) .nil)))
 .nil))
/-- 17: as_roots -/
def b17 : CB := (.cons (.ret (.tup (.cons (.call 14 (.cons (.ix (.var 0) (.int 0)) .nil)) (.cons (.call 14 (.cons (.ix (.var 0) (.int 1)) .nil)) .nil))))
 .nil)
/-- 18: taken -/
def b18 : CB := (.cons (.ret (.tup (.cons (.bin .sub (.call 14 (.cons (.ix (.var 0) (.int 0)) .nil)) (.ix (.var 1) (.int 0))) (.cons (.bin .sub (.call 14 (.cons (.ix (.var 0) (.int 1)) .nil)) (.ix (.var 1) (.int 1))) .nil))))
 .nil)
/-- 19: square -/
def b19 : CB := (.cons (.ret (.bin .add (.bin .mul (.call 14 (.cons (.ix (.var 0) (.int 0)) .nil)) (.ix (.var 0) (.int 0))) (.bin .mul (.call 14 (.cons (.ix (.var 0) (.int 1)) .nil)) (.ix (.var 0) (.int 1)))))
 .nil)
/-- 20: is_corner -/
def b20 : CB := (.cons (.ret (.and (.cons (.isi (.var 0) (.ty "tuple")) (.cons (.cmp .eq (.blt .len (.cons (.var 0) .nil)) (.int 4)) (.cons (.blt .all (.cons (.comp [1] (.nm 1) (.seq (.var 0)) .nul (.call 0 (.cons (.var 1) .nil))) .nil)) .nil)))))
 .nil)
/-- 21: check_corner -/
def b21 : CB := (.cons (.ite (.not (.call 20 (.cons (.var 0) .nil))) (.cons (.raise 3 (.cons (.var 0) .nil))
 .nil) .nil)
 (.cons (.ret (.var 0))
 .nil))
/-- 22: is_direction -/
def b22 : CB := (.cons (.ret (.and (.cons (.call 0 (.cons (.var 0) .nil)) (.cons (.cmp2 .le .le (.int 0) (.var 0) (.int 7)) .nil))))
 .nil)
/-- 23: check_direction -/
def b23 : CB := (.cons (.ite (.not (.call 22 (.cons (.var 0) .nil))) (.cons (.raise 4 (.cons (.var 0) .nil))
 .nil) .nil)
 (.cons (.ret (.var 0))
 .nil))
/-- 24: gone -/
def b24 : CB := (.cons (.set 3 (.ite (.cmp .lt (.var 1) (.int 4)) (.var 2) (.neg (.var 2))))
 (.cons (.set 4 (.bin .mod (.var 1) (.int 4)))
 (.cons (.ret (.bin .add (.bin .add (.sl (.var 0) .nul (.var 4)) (.tup (.cons (.bin .add (.ix (.var 0) (.var 4)) (.var 3)) .nil))) (.sl (.var 0) (.bin .add (.var 4) (.int 1)) .nul)))
 .nil)))
/-- 25: stepped -/
def b25 : CB := (.cons (.expr (.call 21 (.cons (.var 0) .nil)))
 (.cons (.expr (.call 23 (.cons (.var 1) .nil)))
 (.cons (.ret (.call 24 (.cons (.var 0) (.cons (.var 1) (.cons (.var 2) .nil)))))
 .nil)))
/-- 26: place_of -/
def b26 : CB := (.cons (.ret (.tup (.cons (.make 5 3 (.cons (.bin .mul (.int 2) (.ix (.var 0) (.int 0))) (.cons (.bin .sub (.ix (.var 0) (.int 1)) (.ix (.var 0) (.int 3))) (.cons (.int 2) .nil)))) (.cons (.make 5 3 (.cons (.bin .mul (.int 2) (.ix (.var 0) (.int 2))) (.cons (.bin .add (.ix (.var 0) (.int 1)) (.ix (.var 0) (.int 3))) (.cons (.int 2) .nil)))) .nil))))
 .nil)
/-- 27: star_of -/
def b27 : CB := (.cons (.ret (.tup (.cons (.make 5 3 (.cons (.bin .mul (.int 2) (.ix (.var 0) (.int 0))) (.cons (.bin .sub (.ix (.var 0) (.int 3)) (.ix (.var 0) (.int 1))) (.cons (.int 2) .nil)))) (.cons (.make 5 3 (.cons (.bin .mul (.neg (.int 2)) (.ix (.var 0) (.int 2))) (.cons (.bin .add (.ix (.var 0) (.int 1)) (.ix (.var 0) (.int 3))) (.cons (.int 2) .nil)))) .nil))))
 .nil)
/-- 28: place -/
def b28 : CB := (.cons (.ret (.call 26 (.cons (.call 21 (.cons (.var 0) .nil)) .nil)))
 .nil)
/-- 29: star -/
def b29 : CB := (.cons (.ret (.call 27 (.cons (.call 21 (.cons (.var 0) .nil)) .nil)))
 .nil)
/-- 30: from_parts -/
def b30 : CB := (.cons (.ite (.cmp .eq (.bin .mod (.bin .add (.var 1) (.var 3)) (.int 2)) (.int 1)) (.cons (.ret .non)
 .nil) .nil)
 (.cons (.ret (.tup (.cons (.var 0) (.cons (.bin .fdiv (.bin .add (.var 3) (.var 1)) (.int 2)) (.cons (.var 2) (.cons (.bin .fdiv (.bin .sub (.var 3) (.var 1)) (.int 2)) .nil))))))
 .nil))
/-- 31: parts_of -/
def b31 : CB := (.cons (.ite (.or (.cons (.cmp .gt (.bin .mod (.attr (.var 0) 0) (.attr (.var 0) 2)) (.int 0)) (.cons (.cmp .gt (.bin .mod (.bin .mul (.int 2) (.attr (.var 0) 1)) (.attr (.var 0) 2)) (.int 0)) .nil))) (.cons (.ret .non)
 .nil) .nil)
 (.cons (.ret (.tup (.cons (.bin .fdiv (.attr (.var 0) 0) (.attr (.var 0) 2)) (.cons (.bin .fdiv (.bin .mul (.int 2) (.attr (.var 0) 1)) (.attr (.var 0) 2)) .nil))))
 .nil))
/-- 32: corner_at -/
def b32 : CB := (.cons (.setT [3, 4] (.call 16 (.cons (.var 0) .nil)))
 (.cons (.set 1 (.call 31 (.cons (.var 3) .nil)))
 (.cons (.set 2 (.call 31 (.cons (.var 4) .nil)))
 (.cons (.ite (.or (.cons (.cmp .isn (.var 1) .non) (.cons (.cmp .isn (.var 2) .non) .nil))) (.cons (.ret .non)
 .nil) .nil)
 (.cons (.ret (.call 30 (.cons (.ix (.var 1) (.int 0)) (.cons (.ix (.var 1) (.int 1)) (.cons (.ix (.var 2) (.int 0)) (.cons (.ix (.var 2) (.int 1)) .nil))))))
 .nil)))))
/-- 33: corner_with -/
def b33 : CB := (.cons (.setT [3, 4] (.call 16 (.cons (.var 0) .nil)))
 (.cons (.set 1 (.call 31 (.cons (.var 3) .nil)))
 (.cons (.set 2 (.call 31 (.cons (.var 4) .nil)))
 (.cons (.ite (.or (.cons (.cmp .isn (.var 1) .non) (.cons (.cmp .isn (.var 2) .non) .nil))) (.cons (.ret .non)
 .nil) .nil)
 (.cons (.ret (.call 30 (.cons (.ix (.var 1) (.int 0)) (.cons (.neg (.ix (.var 1) (.int 1))) (.cons (.neg (.ix (.var 2) (.int 0))) (.cons (.ix (.var 2) (.int 1)) .nil))))))
 .nil)))))
/-- 34: _law_start -/
def b34 : CB := (.cons (.ret (.lst (.cons (.blt .list (.cons (.sl (.var 0) .nul (.int 63)) .nil)) (.cons (.int 0) (.cons (.int 0) .nil)))))
 .nil)
/-- 35: _law_mixed -/
def b35 : CB := (.cons (.set 2 (.bin .mod (.bin .mul (.blt .int (.cons (.bin .add (.bin .add (.var 0) (.bin .mul (.int 7919) (.var 1))) (.int 1)) .nil)) (.int 48271)) (.int 2147483647)))
 (.cons (.set 2 (.bin .mod (.bin .mul (.var 2) (.bin .add (.bin .fdiv (.var 2) (.int 1009)) (.int 69621))) (.int 2147483647)))
 (.cons (.ret (.bin .mod (.bin .mul (.var 2) (.bin .add (.bin .fdiv (.var 2) (.int 2003)) (.int 40692))) (.int 2147483399)))
 .nil)))
/-- 36: _law_draw -/
def b36_s0 : CS := (.ite (.cmp .gt (.ix (.var 0) (.int 2)) (.int 0)) (.cons (.set 6 (.bin .mod (.blt .int (.cons (.ix (.var 0) (.int 2)) .nil)) (.var 1)))
 (.cons (.seti (.var 0) (.int 2) (.bin .fdiv (.ix (.var 0) (.int 2)) (.var 1)))
 (.cons (.ret (.var 6))
 .nil))) .nil)
def b36_s1 : CS := (.set 2 (.ix (.var 0) (.int 0)))
def b36_s2 : CS := (.set 3 (.ix (.var 0) (.int 1)))
def b36_s3 : CS := (.seti (.var 0) (.int 1) (.bin .add (.var 3) (.int 1)))
def b36_s4 : CS := (.ite (.and (.cons (.cmp .lt (.var 3) (.blt .len (.cons (.var 2) .nil))) (.cons (.cmp .ge (.blt .abs (.cons (.ix (.var 2) (.var 3)) .nil)) (.bin .pow (.int 10) (.int 18))) .nil))) (.cons (.seti (.var 0) (.int 2) (.bin .fdiv (.blt .abs (.cons (.ix (.var 2) (.var 3)) .nil)) (.var 1)))
 (.cons (.ret (.bin .mod (.blt .int (.cons (.blt .abs (.cons (.ix (.var 2) (.var 3)) .nil)) .nil)) (.var 1)))
 .nil)) .nil)
def b36_s5 : CS := (.set 4 (.int 0))
def b36_s6 : CS := (.ite (.cmp .gt (.blt .len (.cons (.var 2) .nil)) (.int 0)) (.cons (.set 4 (.ix (.var 2) (.bin .mod (.blt .int (.cons (.var 3) .nil)) (.blt .len (.cons (.var 2) .nil)))))
 .nil) .nil)
def b36_s7 : CS := (.set 5 (.call 35 (.cons (.var 4) (.cons (.var 3) .nil))))
def b36_s8 : CS := (.ite (.cmp .gt (.var 1) (.int 1000000)) (.cons (.for_ (.nm 7) (.range1 (.int 7)) (.cons (.set 5 (.bin .add (.bin .mul (.var 5) (.int 2147483399)) (.call 35 (.cons (.bin .add (.var 4) (.bin .mul (.int 31) (.var 7))) (.cons (.bin .add (.bin .add (.bin .mul (.int 1009) (.var 3)) (.bin .mul (.int 17) (.var 7))) (.int 5)) .nil)))))
 .nil))
 .nil) .nil)
def b36_s9 : CS := (.ret (.bin .mod (.blt .int (.cons (.var 5) .nil)) (.var 1)))
def b36_t9 : CB := .cons b36_s9 .nil
def b36_t8 : CB := .cons b36_s8 b36_t9
def b36_t7 : CB := .cons b36_s7 b36_t8
def b36_t6 : CB := .cons b36_s6 b36_t7
def b36_t5 : CB := .cons b36_s5 b36_t6
def b36_t4 : CB := .cons b36_s4 b36_t5
def b36_t3 : CB := .cons b36_s3 b36_t4
def b36_t2 : CB := .cons b36_s2 b36_t3
def b36_t1 : CB := .cons b36_s1 b36_t2
def b36_t0 : CB := .cons b36_s0 b36_t1
abbrev b36 : CB := b36_t0
/-- 37: _law_between -/
def b37 : CB := (.cons (.ret (.bin .add (.var 1) (.call 36 (.cons (.var 0) (.cons (.bin .add (.bin .sub (.var 2) (.var 1)) (.int 1)) .nil)))))
 .nil)
/-- 38: _law_plus -/
def b38 : CB := (.cons (.ret (.tup (.cons (.bin .add (.bin .mul (.ix (.var 0) (.int 0)) (.ix (.var 1) (.int 2))) (.bin .mul (.ix (.var 1) (.int 0)) (.ix (.var 0) (.int 2)))) (.cons (.bin .add (.bin .mul (.ix (.var 0) (.int 1)) (.ix (.var 1) (.int 2))) (.bin .mul (.ix (.var 1) (.int 1)) (.ix (.var 0) (.int 2)))) (.cons (.bin .mul (.ix (.var 0) (.int 2)) (.ix (.var 1) (.int 2))) .nil)))))
 .nil)
/-- 39: _law_common -/
def b39 : CB := (.cons (.set 0 (.blt .abs (.cons (.var 0) .nil)))
 (.cons (.set 1 (.blt .abs (.cons (.var 1) .nil)))
 (.cons (.while_ (.cmp .gt (.var 1) (.int 0)) (.cons (.set 2 (.bin .mod (.blt .int (.cons (.var 0) .nil)) (.var 1)))
 (.cons (.set 0 (.var 1))
 (.cons (.set 1 (.var 2))
 .nil))))
 (.cons (.ret (.var 0))
 .nil))))
/-- 40: _law_lowest -/
def b40 : CB := (.cons (.set 1 (.call 39 (.cons (.call 39 (.cons (.ix (.var 0) (.int 0)) (.cons (.ix (.var 0) (.int 1)) .nil))) (.cons (.ix (.var 0) (.int 2)) .nil))))
 (.cons (.ite (.cmp .lt (.ix (.var 0) (.int 2)) (.int 0)) (.cons (.set 1 (.neg (.var 1)))
 .nil) .nil)
 (.cons (.ret (.tup (.cons (.bin .fdiv (.ix (.var 0) (.int 0)) (.var 1)) (.cons (.bin .fdiv (.ix (.var 0) (.int 1)) (.var 1)) (.cons (.bin .fdiv (.ix (.var 0) (.int 2)) (.var 1)) .nil)))))
 .nil)))
/-- 41: _law_is_root -/
def b41 : CB := (.cons (.ite (.not (.isi (.var 0) (.own 5))) (.cons (.ret (.bl false))
 .nil) .nil)
 (.cons (.for_ (.nm 2) (.seq (.lst (.cons (.attr (.var 0) 0) (.cons (.attr (.var 0) 1) (.cons (.attr (.var 0) 2) .nil))))) (.cons (.ite (.or (.cons (.not (.isi (.var 2) (.ty "int"))) (.cons (.isi (.var 2) (.ty "bool")) .nil))) (.cons (.ret (.bl false))
 .nil) .nil)
 .nil))
 (.cons (.ret (.cmp .eq (.tup (.cons (.attr (.var 0) 0) (.cons (.attr (.var 0) 1) (.cons (.attr (.var 0) 2) .nil)))) (.call 40 (.cons (.var 1) .nil))))
 .nil)))
/-- 42: _law_is_point -/
def b42 : CB := (.cons (.ret (.and (.cons (.isi (.var 0) (.ty "tuple")) (.cons (.cmp .eq (.blt .len (.cons (.var 0) .nil)) (.int 2)) (.cons (.call 41 (.cons (.ix (.var 0) (.int 0)) (.cons (.var 1) .nil))) (.cons (.call 41 (.cons (.ix (.var 0) (.int 1)) (.cons (.var 2) .nil))) .nil))))))
 .nil)
/-- 43: _law_place -/
def b43 : CB := (.cons (.ret (.tup (.cons (.tup (.cons (.bin .mul (.int 2) (.ix (.var 0) (.int 0))) (.cons (.bin .sub (.ix (.var 0) (.int 1)) (.ix (.var 0) (.int 3))) (.cons (.int 2) .nil)))) (.cons (.tup (.cons (.bin .mul (.int 2) (.ix (.var 0) (.int 2))) (.cons (.bin .add (.ix (.var 0) (.int 1)) (.ix (.var 0) (.int 3))) (.cons (.int 2) .nil)))) .nil))))
 .nil)
/-- 44: _law_star -/
def b44 : CB := (.cons (.ret (.tup (.cons (.tup (.cons (.bin .mul (.int 2) (.ix (.var 0) (.int 0))) (.cons (.bin .sub (.ix (.var 0) (.int 3)) (.ix (.var 0) (.int 1))) (.cons (.int 2) .nil)))) (.cons (.tup (.cons (.bin .mul (.neg (.int 2)) (.ix (.var 0) (.int 2))) (.cons (.bin .add (.ix (.var 0) (.int 1)) (.ix (.var 0) (.int 3))) (.cons (.int 2) .nil)))) .nil))))
 .nil)
/-- 45: _law_corner -/
def b45 : CB := (.cons (.set 1 (.call 36 (.cons (.var 0) (.cons (.int 4) .nil))))
 (.cons (.set 2 (.int 5))
 (.cons (.ite (.cmp .eq (.var 1) (.int 2)) (.cons (.set 2 (.int 1000))
 .nil) .nil)
 (.cons (.ite (.cmp .eq (.var 1) (.int 3)) (.cons (.set 2 (.bin .pow (.int 10) (.int 25)))
 .nil) .nil)
 (.cons (.ret (.blt .tuple (.cons (.comp [3] (.nm 3) (.range1 (.int 4)) .nul (.call 37 (.cons (.var 0) (.cons (.neg (.var 2)) (.cons (.var 2) .nil))))) .nil)))
 .nil)))))
/-- 46: _law_given -/
def b46 : CB := (.cons (.ite (.and (.cons (.cmp .eq (.ix (.var 0) (.int 1)) (.int 0)) (.cons (.cmp .eq (.bin .mod (.blt .int (.cons (.ix (.var 0) (.int 0)) .nil)) (.ix (.var 0) (.int 2))) (.int 0)) .nil))) (.cons (.ret (.bin .fdiv (.ix (.var 0) (.int 0)) (.ix (.var 0) (.int 2))))
 .nil) .nil)
 (.cons (.ret (.make 5 3 (.cons (.ix (.var 0) (.int 0)) (.cons (.ix (.var 0) (.int 1)) (.cons (.ix (.var 0) (.int 2)) .nil)))))
 .nil))
/-- 47: _law_step -/
def b47 : CB := (.cons (.setO 3 (.blt .list (.cons (.var 0) .nil)))
 (.cons (.setiO 3 (.bin .mod (.blt .int (.cons (.var 1) .nil)) (.int 4)) (.bin .add (.bin .fdiv (.ix (.var 3) (.bin .mod (.blt .int (.cons (.var 1) .nil)) (.int 4))) (.int 1)) (.bin .fdiv (.ite (.cmp .lt (.var 1) (.int 4)) (.var 2) (.neg (.var 2))) (.int 1))))
 (.frz 3 (.cons (.ret (.blt .tuple (.cons (.var 3) .nil)))
 .nil))))
/-- 48: _law_is_corner -/
def b48 : CB := (.cons (.ite (.or (.cons (.not (.isi (.var 0) (.ty "tuple"))) (.cons (.cmp .ne (.blt .len (.cons (.var 0) .nil)) (.int 4)) .nil))) (.cons (.ret (.bl false))
 .nil) .nil)
 (.cons (.for_ (.nm 1) (.seq (.var 0)) (.cons (.ite (.or (.cons (.not (.isi (.var 1) (.ty "int"))) (.cons (.isi (.var 1) (.ty "bool")) .nil))) (.cons (.ret (.bl false))
 .nil) .nil)
 .nil))
 (.cons (.ret (.bl true))
 .nil)))
/-- 49: _law_bad_corner -/
def b49 : CB := (.cons (.set 2 (.call 36 (.cons (.var 0) (.cons (.int 8) .nil))))
 (.cons (.set 3 (.call 36 (.cons (.var 0) (.cons (.int 4) .nil))))
 (.cons (.ite (.cmp .eq (.var 2) (.int 0)) (.cons (.ret (.blt .list (.cons (.var 1) .nil)))
 .nil) .nil)
 (.cons (.ite (.cmp .eq (.var 2) (.int 1)) (.cons (.ret (.sl (.var 1) .nul (.int 3)))
 .nil) .nil)
 (.cons (.ite (.cmp .eq (.var 2) (.int 2)) (.cons (.ret (.bin .add (.var 1) (.tup (.cons (.int 0) .nil))))
 .nil) .nil)
 (.cons (.ite (.cmp .eq (.var 2) (.int 3)) (.cons (.ret .non)
 .nil) .nil)
 (.cons (.set 4 (.ix (.lst (.cons (.bl true) (.cons (.str "0") (.cons .non (.cons (.tup (.cons (.int 0) .nil)) .nil))))) (.bin .sub (.var 2) (.int 4))))
 (.cons (.ret (.bin .add (.bin .add (.sl (.var 1) .nul (.var 3)) (.tup (.cons (.var 4) .nil))) (.sl (.var 1) (.bin .add (.var 3) (.int 1)) .nul)))
 .nil))))))))
/-- 50: _law_refused -/
def b50 : CB := (.cons (.setO 3 (.lst .nil))
 (.cons (.try_ (.cons (.try_ (.cons (.expr (.call 25 (.cons (.var 0) (.cons (.var 1) (.cons (.var 2) .nil)))))
 (.cons (.appO 3 (.tup (.cons (.str "told") (.cons .non .nil))))
 .nil)) 3 (some 4) (.cons (.appO 3 (.tup (.cons (.str "corner") (.cons (.attr (.var 4) 3) .nil))))
 .nil)) .nil) 4 (some 4) (.cons (.appO 3 (.tup (.cons (.str "direction") (.cons (.attr (.var 4) 4) .nil))))
 .nil))
 (.cons (.try_ (.cons (.expr (.call 28 (.cons (.var 0) .nil)))
 (.cons (.appO 3 (.tup (.cons (.str "told") (.cons .non .nil))))
 .nil)) 3 (some 4) (.cons (.appO 3 (.tup (.cons (.str "corner") (.cons (.attr (.var 4) 3) .nil))))
 .nil))
 (.cons (.try_ (.cons (.expr (.call 29 (.cons (.var 0) .nil)))
 (.cons (.appO 3 (.tup (.cons (.str "told") (.cons .non .nil))))
 .nil)) 3 (some 4) (.cons (.appO 3 (.tup (.cons (.str "corner") (.cons (.attr (.var 4) 3) .nil))))
 .nil))
 (.cons (.retO 3)
 .nil)))))
/-- 51: _law_no_point -/
def b51 : CB := (.cons (.setO 1 (.lst .nil))
 (.cons (.try_ (.cons (.expr (.call 32 (.cons (.var 0) .nil)))
 .nil) 2 (some 2) (.cons (.appO 1 (.attr (.var 2) 5))
 .nil))
 (.cons (.try_ (.cons (.expr (.call 33 (.cons (.var 0) .nil)))
 .nil) 2 (some 2) (.cons (.appO 1 (.attr (.var 2) 5))
 .nil))
 (.frz 1 (.cons (.ret (.cmp .eqn (.var 1) (.lst (.cons (.var 0) (.cons (.var 0) .nil)))))
 .nil)))))
/-- 52: _law_whole_parts -/
def b52 : CB := (.cons (.set 1 (.call 40 (.cons (.var 0) .nil)))
 (.cons (.ite (.or (.cons (.cmp .ne (.bin .mod (.blt .int (.cons (.ix (.var 1) (.int 0)) .nil)) (.ix (.var 1) (.int 2))) (.int 0)) (.cons (.cmp .ne (.bin .mod (.blt .int (.cons (.bin .mul (.int 2) (.ix (.var 1) (.int 1))) .nil)) (.ix (.var 1) (.int 2))) (.int 0)) .nil))) (.cons (.ret .non)
 .nil) .nil)
 (.cons (.ret (.tup (.cons (.bin .fdiv (.ix (.var 1) (.int 0)) (.ix (.var 1) (.int 2))) (.cons (.bin .fdiv (.bin .mul (.int 2) (.ix (.var 1) (.int 1))) (.ix (.var 1) (.int 2))) .nil))))
 .nil)))
/-- 53: _law_corner_of -/
def b53 : CB := (.cons (.set 3 (.call 52 (.cons (.var 0) .nil)))
 (.cons (.set 4 (.call 52 (.cons (.var 1) .nil)))
 (.cons (.ite (.or (.cons (.cmp .isn (.var 3) .non) (.cons (.cmp .isn (.var 4) .non) (.cons (.cmp .eq (.bin .mod (.blt .int (.cons (.bin .add (.ix (.var 3) (.int 1)) (.ix (.var 4) (.int 1))) .nil)) (.int 2)) (.int 1)) .nil)))) (.cons (.ret .non)
 .nil) .nil)
 (.cons (.set 5 (.ite (.var 2) (.neg (.int 1)) (.int 1)))
 (.cons (.set 6 (.bin .mul (.var 5) (.ix (.var 3) (.int 1))))
 (.cons (.set 7 (.ix (.var 4) (.int 1)))
 (.cons (.ret (.tup (.cons (.ix (.var 3) (.int 0)) (.cons (.bin .fdiv (.bin .add (.var 7) (.var 6)) (.int 2)) (.cons (.bin .mul (.var 5) (.ix (.var 4) (.int 0))) (.cons (.bin .fdiv (.bin .sub (.var 7) (.var 6)) (.int 2)) .nil))))))
 .nil)))))))
/-- 54: _law_led_back -/
def b54_s0 : CS := (.setT [3, 4] (.call 43 (.cons (.var 0) .nil)))
def b54_s1 : CS := (.set 3 (.call 38 (.cons (.var 3) (.cons (.var 1) .nil))))
def b54_s2 : CS := (.set 4 (.call 38 (.cons (.var 4) (.cons (.var 2) .nil))))
def b54_s3 : CS := (.set 5 (.call 32 (.cons (.tup (.cons (.call 46 (.cons (.var 3) .nil)) (.cons (.call 46 (.cons (.var 4) .nil)) .nil))) .nil)))
def b54_s4 : CS := (.set 6 (.call 53 (.cons (.var 3) (.cons (.var 4) (.cons (.bl false) .nil)))))
def b54_s5 : CS := (.ite (.or (.cons (.and (.cons (.cmp .isn (.var 6) .non) (.cons (.cmp .notn (.var 5) .non) .nil))) (.cons (.and (.cons (.cmp .notn (.var 6) .non) (.cons (.or (.cons (.not (.call 48 (.cons (.var 5) .nil))) (.cons (.cmp .ne (.var 5) (.var 6)) .nil))) .nil))) .nil))) (.cons (.ret (.bl false))
 .nil) .nil)
def b54_s6 : CS := (.setT [3, 4] (.call 44 (.cons (.var 0) .nil)))
def b54_s7 : CS := (.set 3 (.call 38 (.cons (.var 3) (.cons (.var 1) .nil))))
def b54_s8 : CS := (.set 4 (.call 38 (.cons (.var 4) (.cons (.var 2) .nil))))
def b54_s9 : CS := (.set 5 (.call 33 (.cons (.tup (.cons (.call 46 (.cons (.var 3) .nil)) (.cons (.call 46 (.cons (.var 4) .nil)) .nil))) .nil)))
def b54_s10 : CS := (.set 6 (.call 53 (.cons (.var 3) (.cons (.var 4) (.cons (.bl true) .nil)))))
def b54_s11 : CS := (.ite (.cmp .isn (.var 6) .non) (.cons (.ret (.cmp .isn (.var 5) .non))
 .nil) .nil)
def b54_s12 : CS := (.ret (.and (.cons (.call 48 (.cons (.var 5) .nil)) (.cons (.cmp .eq (.var 5) (.var 6)) .nil))))
def b54_t12 : CB := .cons b54_s12 .nil
def b54_t11 : CB := .cons b54_s11 b54_t12
def b54_t10 : CB := .cons b54_s10 b54_t11
def b54_t9 : CB := .cons b54_s9 b54_t10
def b54_t8 : CB := .cons b54_s8 b54_t9
def b54_t7 : CB := .cons b54_s7 b54_t8
def b54_t6 : CB := .cons b54_s6 b54_t7
def b54_t5 : CB := .cons b54_s5 b54_t6
def b54_t4 : CB := .cons b54_s4 b54_t5
def b54_t3 : CB := .cons b54_s3 b54_t4
def b54_t2 : CB := .cons b54_s2 b54_t3
def b54_t1 : CB := .cons b54_s1 b54_t2
def b54_t0 : CB := .cons b54_s0 b54_t1
abbrev b54 : CB := b54_t0
/-- 55: law -/
def b55_s0 : CS := (.setL 1 (.call 34 (.cons (.var 0) .nil)))
def b55_s1 : CS := (.set 2 (.call 36 (.cons (.var 1) (.cons (.int 8) .nil))))
def b55_s2 : CS := (.set 3 (.call 45 (.cons (.var 1) .nil)))
def b55_s3 : CS := (.set 4 (.call 36 (.cons (.var 1) (.cons (.int 8) .nil))))
def b55_s4 : CS := (.set 5 (.call 37 (.cons (.var 1) (.cons (.neg (.int 9)) (.cons (.int 9) .nil)))))
def b55_s5 : CS := (.ite (.cmp .eq (.call 36 (.cons (.var 1) (.cons (.int 3) .nil))) (.int 0)) (.cons (.set 5 (.call 37 (.cons (.var 1) (.cons (.neg (.bin .pow (.int 10) (.int 20))) (.cons (.bin .pow (.int 10) (.int 20)) .nil)))))
 .nil) .nil)
def b55_s6 : CS := (.ite (.cmp .lt (.var 2) (.int 2)) (.cons (.set 11 (.var 3))
 (.cons (.ite (.cmp .eq (.var 2) (.int 0)) (.cons (.set 11 (.call 49 (.cons (.var 1) (.cons (.var 3) .nil))))
 .nil) .nil)
 (.cons (.set 12 (.ix (.lst (.cons (.int 8) (.cons (.neg (.int 1)) (.cons (.bl true) (.cons (.str "0") (.cons .non (.cons (.var 4) .nil))))))) (.call 36 (.cons (.var 1) (.cons (.int 6) .nil)))))
 (.cons (.set 13 (.call 50 (.cons (.var 11) (.cons (.var 12) (.cons (.var 5) .nil)))))
 (.cons (.ite (.cmp .eq (.var 2) (.int 0)) (.cons (.ret (.and (.cons (.cmp .eq (.var 13) (.bin .mul (.lst (.cons (.tup (.cons (.str "corner") (.cons (.var 11) .nil))) .nil)) (.int 3))) (.cons (.call 51 (.cons (.lst (.cons (.ix (.call 28 (.cons (.var 3) .nil)) (.int 0)) (.cons (.int 0) .nil))) .nil)) .nil))))
 .nil) .nil)
 (.cons (.set 14 (.tup (.cons (.str "direction") (.cons (.var 12) .nil))))
 (.cons (.ite (.and (.cons (.cmp .eq (.var 12) (.var 4)) (.cons (.not (.isi (.var 12) (.ty "bool"))) .nil))) (.cons (.set 14 (.tup (.cons (.str "told") (.cons .non .nil))))
 .nil) .nil)
 (.cons (.set 15 (.cmp .eq (.isi (.ix (.ix (.var 13) (.int 0)) (.int 1)) (.ty "bool")) (.isi (.ix (.var 14) (.int 1)) (.ty "bool"))))
 (.cons (.ret (.and (.cons (.var 15) (.cons (.cmp .eq (.var 13) (.lst (.cons (.var 14) (.cons (.tup (.cons (.str "told") (.cons .non .nil))) (.cons (.tup (.cons (.str "told") (.cons .non .nil))) .nil))))) (.cons (.call 51 (.cons (.tup (.cons (.tup (.cons (.int 0) (.cons (.bl true) .nil))) (.cons (.int 1) .nil))) .nil)) .nil)))))
 .nil))))))))) .nil)
def b55_s7 : CS := (.set 6 (.call 25 (.cons (.var 3) (.cons (.var 4) (.cons (.var 5) .nil)))))
def b55_s8 : CS := (.ite (.or (.cons (.not (.call 48 (.cons (.var 6) .nil))) (.cons (.cmp .ne (.var 6) (.call 47 (.cons (.var 3) (.cons (.var 4) (.cons (.var 5) .nil))))) .nil))) (.cons (.ret (.bl false))
 .nil) .nil)
def b55_s9 : CS := (.for_ (.nm 7) (.seq (.lst (.cons (.var 3) (.cons (.var 6) .nil)))) (.cons (.setT [16, 17] (.call 43 (.cons (.var 7) .nil)))
 (.cons (.ite (.not (.call 42 (.cons (.call 28 (.cons (.var 7) .nil)) (.cons (.var 16) (.cons (.var 17) .nil))))) (.cons (.ret (.bl false))
 .nil) .nil)
 (.cons (.setT [16, 17] (.call 44 (.cons (.var 7) .nil)))
 (.cons (.ite (.not (.call 42 (.cons (.call 29 (.cons (.var 7) .nil)) (.cons (.var 16) (.cons (.var 17) .nil))))) (.cons (.ret (.bl false))
 .nil) .nil)
 .nil)))))
def b55_s10 : CS := (.set 8 (.call 25 (.cons (.var 3) (.cons (.var 4) (.cons (.int 1) .nil)))))
def b55_s11 : CS := (.ite (.or (.cons (.not (.cmp .eq (.call 19 (.cons (.call 18 (.cons (.call 28 (.cons (.var 8) .nil)) (.cons (.call 28 (.cons (.var 3) .nil)) .nil))) .nil)) (.int 1))) (.cons (.not (.cmp .eq (.call 19 (.cons (.call 18 (.cons (.call 29 (.cons (.var 8) .nil)) (.cons (.call 29 (.cons (.var 3) .nil)) .nil))) .nil)) (.int 1))) .nil))) (.cons (.ret (.bl false))
 .nil) .nil)
def b55_s12 : CS := (.ite (.cmp .eq (.call 36 (.cons (.var 1) (.cons (.int 4) .nil))) (.int 0)) (.cons (.ret (.call 54 (.cons (.var 3) (.cons (.tup (.cons (.int 0) (.cons (.int 0) (.cons (.int 1) .nil)))) (.cons (.tup (.cons (.int 0) (.cons (.int 0) (.cons (.int 1) .nil)))) .nil)))))
 .nil) .nil)
def b55_s13 : CS := (.set 9 (.tup (.cons (.call 37 (.cons (.var 1) (.cons (.neg (.int 6)) (.cons (.int 6) .nil)))) (.cons (.bin .mul (.int 3) (.call 37 (.cons (.var 1) (.cons (.neg (.int 2)) (.cons (.int 2) .nil))))) (.cons (.int 6) .nil)))))
def b55_s14 : CS := (.set 10 (.tup (.cons (.call 37 (.cons (.var 1) (.cons (.neg (.int 6)) (.cons (.int 6) .nil)))) (.cons (.bin .mul (.int 3) (.call 37 (.cons (.var 1) (.cons (.neg (.int 2)) (.cons (.int 2) .nil))))) (.cons (.int 6) .nil)))))
def b55_s15 : CS := (.ite (.cmp .eq (.call 36 (.cons (.var 1) (.cons (.int 2) .nil))) (.int 0)) (.cons (.set 9 (.tup (.cons (.bin .mul (.int 6) (.call 37 (.cons (.var 1) (.cons (.neg (.int 3)) (.cons (.int 3) .nil))))) (.cons (.ix (.var 9) (.int 1)) (.cons (.int 6) .nil)))))
 (.cons (.set 10 (.tup (.cons (.bin .mul (.int 6) (.call 37 (.cons (.var 1) (.cons (.neg (.int 3)) (.cons (.int 3) .nil))))) (.cons (.ix (.var 10) (.int 1)) (.cons (.int 6) .nil)))))
 .nil)) .nil)
def b55_s16 : CS := (.ret (.call 54 (.cons (.var 3) (.cons (.var 9) (.cons (.var 10) .nil)))))
def b55_t16 : CB := .cons b55_s16 .nil
def b55_t15 : CB := .cons b55_s15 b55_t16
def b55_t14 : CB := .cons b55_s14 b55_t15
def b55_t13 : CB := .cons b55_s13 b55_t14
def b55_t12 : CB := .cons b55_s12 b55_t13
def b55_t11 : CB := .cons b55_s11 b55_t12
def b55_t10 : CB := .cons b55_s10 b55_t11
def b55_t9 : CB := .cons b55_s9 b55_t10
def b55_t8 : CB := .cons b55_s8 b55_t9
def b55_t7 : CB := .cons b55_s7 b55_t8
def b55_t6 : CB := .cons b55_s6 b55_t7
def b55_t5 : CB := .cons b55_s5 b55_t6
def b55_t4 : CB := .cons b55_s4 b55_t5
def b55_t3 : CB := .cons b55_s3 b55_t4
def b55_t2 : CB := .cons b55_s2 b55_t3
def b55_t1 : CB := .cons b55_s1 b55_t2
def b55_t0 : CB := .cons b55_s0 b55_t1
abbrev b55 : CB := b55_t0
def pd0 : DefT := { name := "is_integer", cls := none, N := ["thing"], np := 1, body := b0 }
def pd1 : DefT := { name := "common", cls := none, N := ["one", "other"], np := 2, body := b1 }
def pd2 : DefT := { name := "whole_root", cls := none, N := ["number", "guess", "later"], np := 1, body := b2 }
def pd3 : DefT := { name := "__init__", cls := some 5, N := ["self", "top", "root", "bottom", "value", "part"], np := 4, body := b3 }
def pd4 : DefT := { name := "__eq__", cls := some 5, N := ["self", "other"], np := 2, body := b4 }
def pd5 : DefT := { name := "__neg__", cls := some 5, N := ["self"], np := 1, body := b5 }
def pd6 : DefT := { name := "__add__", cls := some 5, N := ["self", "other", "top"], np := 2, body := b6 }
def pd7 : DefT := { name := "__radd__", cls := some 5, N := ["self", "other"], np := 2, body := b7 }
def pd8 : DefT := { name := "__sub__", cls := some 5, N := ["self", "other", "top"], np := 2, body := b8 }
def pd9 : DefT := { name := "__rsub__", cls := some 5, N := ["self", "other"], np := 2, body := b9 }
def pd10 : DefT := { name := "__mul__", cls := some 5, N := ["self", "other", "top"], np := 2, body := b10 }
def pd11 : DefT := { name := "__rmul__", cls := some 5, N := ["self", "other"], np := 2, body := b11 }
def pd12 : DefT := { name := "whole", cls := some 5, N := ["self", "square", "part"], np := 1, body := b12 }
def pd13 : DefT := { name := "is_number", cls := none, N := ["thing"], np := 1, body := b13 }
def pd14 : DefT := { name := "as_root", cls := none, N := ["number"], np := 1, body := b14 }
def pd15 : DefT := { name := "is_point", cls := none, N := ["thing"], np := 1, body := b15 }
def pd16 : DefT := { name := "check_point", cls := none, N := ["thing"], np := 1, body := b16 }
def pd17 : DefT := { name := "as_roots", cls := none, N := ["point"], np := 1, body := b17 }
def pd18 : DefT := { name := "taken", cls := none, N := ["one", "other"], np := 2, body := b18 }
def pd19 : DefT := { name := "square", cls := none, N := ["point"], np := 1, body := b19 }
def pd20 : DefT := { name := "is_corner", cls := none, N := ["thing", "item"], np := 1, body := b20 }
def pd21 : DefT := { name := "check_corner", cls := none, N := ["thing"], np := 1, body := b21 }
def pd22 : DefT := { name := "is_direction", cls := none, N := ["thing"], np := 1, body := b22 }
def pd23 : DefT := { name := "check_direction", cls := none, N := ["thing"], np := 1, body := b23 }
def pd24 : DefT := { name := "gone", cls := none, N := ["corner", "direction", "many", "part", "at"], np := 3, body := b24 }
def pd25 : DefT := { name := "stepped", cls := none, N := ["corner", "direction", "many"], np := 3, body := b25 }
def pd26 : DefT := { name := "place_of", cls := none, N := ["corner"], np := 1, body := b26 }
def pd27 : DefT := { name := "star_of", cls := none, N := ["corner"], np := 1, body := b27 }
def pd28 : DefT := { name := "place", cls := none, N := ["corner"], np := 1, body := b28 }
def pd29 : DefT := { name := "star", cls := none, N := ["corner"], np := 1, body := b29 }
def pd30 : DefT := { name := "from_parts", cls := none, N := ["first", "difference", "third", "total"], np := 4, body := b30 }
def pd31 : DefT := { name := "parts_of", cls := none, N := ["number"], np := 1, body := b31 }
def pd32 : DefT := { name := "corner_at", cls := none, N := ["point", "one", "other", "x", "y"], np := 1, body := b32 }
def pd33 : DefT := { name := "corner_with", cls := none, N := ["point", "one", "other", "x", "y"], np := 1, body := b33 }
def pd34 : DefT := { name := "_law_start", cls := none, N := ["_law_script"], np := 1, body := b34 }
def pd35 : DefT := { name := "_law_mixed", cls := none, N := ["_law_cell", "_law_count", "_law_number"], np := 2, body := b35 }
def pd36 : DefT := { name := "_law_draw", cls := none, N := ["_law_state", "_law_many", "_law_cells", "_law_at", "_law_cell", "_law_number", "_law_digit", "_law_turn"], np := 2, body := b36 }
def pd37 : DefT := { name := "_law_between", cls := none, N := ["_law_state", "_law_least", "_law_most"], np := 3, body := b37 }
def pd38 : DefT := { name := "_law_plus", cls := none, N := ["_law_one", "_law_other"], np := 2, body := b38 }
def pd39 : DefT := { name := "_law_common", cls := none, N := ["_law_one", "_law_other", "_law_rest"], np := 2, body := b39 }
def pd40 : DefT := { name := "_law_lowest", cls := none, N := ["_law_number", "_law_part"], np := 1, body := b40 }
def pd41 : DefT := { name := "_law_is_root", cls := none, N := ["_law_thing", "_law_number", "_law_part"], np := 2, body := b41 }
def pd42 : DefT := { name := "_law_is_point", cls := none, N := ["_law_thing", "_law_x", "_law_y"], np := 3, body := b42 }
def pd43 : DefT := { name := "_law_place", cls := none, N := ["_law_corner_here"], np := 1, body := b43 }
def pd44 : DefT := { name := "_law_star", cls := none, N := ["_law_corner_here"], np := 1, body := b44 }
def pd45 : DefT := { name := "_law_corner", cls := none, N := ["_law_state", "_law_size", "_law_most", "_law_k"], np := 1, body := b45 }
def pd46 : DefT := { name := "_law_given", cls := none, N := ["_law_number"], np := 1, body := b46 }
def pd47 : DefT := { name := "_law_step", cls := none, N := ["_law_corner_here", "_law_way", "_law_many", "_law_found"], np := 3, body := b47 }
def pd48 : DefT := { name := "_law_is_corner", cls := none, N := ["_law_thing", "_law_part"], np := 1, body := b48 }
def pd49 : DefT := { name := "_law_bad_corner", cls := none, N := ["_law_state", "_law_corner_here", "_law_kind", "_law_at", "_law_part"], np := 2, body := b49 }
def pd50 : DefT := { name := "_law_refused", cls := none, N := ["_law_corner_here", "_law_direction", "_law_many", "_law_found", "e"], np := 3, body := b50 }
def pd51 : DefT := { name := "_law_no_point", cls := none, N := ["_law_thing", "_law_found", "e"], np := 1, body := b51 }
def pd52 : DefT := { name := "_law_whole_parts", cls := none, N := ["_law_number", "_law_low"], np := 1, body := b52 }
def pd53 : DefT := { name := "_law_corner_of", cls := none, N := ["_law_x", "_law_y", "_law_is_star", "_law_one", "_law_other", "_law_part", "_law_difference", "_law_total"], np := 3, body := b53 }
def pd54 : DefT := { name := "_law_led_back", cls := none, N := ["_law_corner_here", "_law_dx", "_law_dy", "_law_x", "_law_y", "_law_found", "_law_due"], np := 3, body := b54 }
def pd55 : DefT := { name := "law", cls := none, N := ["_law_script", "_law_state", "_law_spoil", "_law_corner_here", "_law_direction", "_law_many", "_law_later", "_law_one", "_law_beside", "_law_dx", "_law_dy", "_law_bad", "_law_way", "_law_told", "_law_due", "_law_same", "_law_x", "_law_y"], np := 1, body := b55 }
def pc0 : ClsT := { name := "FloorError", fields := [], exc := true, eq := none, neg := none, ops := [], meths := [] }
def pc1 : ClsT := { name := "BadNumber", fields := ["value"], exc := true, eq := none, neg := none, ops := [], meths := [] }
def pc2 : ClsT := { name := "BadPoint", fields := ["point"], exc := true, eq := none, neg := none, ops := [], meths := [] }
def pc3 : ClsT := { name := "BadCorner", fields := ["corner"], exc := true, eq := none, neg := none, ops := [], meths := [] }
def pc4 : ClsT := { name := "BadDirection", fields := ["direction"], exc := true, eq := none, neg := none, ops := [], meths := [] }
def pc5 : ClsT := { name := "Root", fields := ["top", "root", "bottom"], exc := false, eq := some 4, neg := some 5, ops := [(.add, 6, 7), (.sub, 8, 9), (.mul, 10, 11)], meths := [] }
def P : Prog := {
  defs := [pd0, pd1, pd2, pd3, pd4, pd5, pd6, pd7, pd8, pd9, pd10, pd11, pd12, pd13, pd14, pd15, pd16, pd17, pd18, pd19, pd20, pd21, pd22, pd23, pd24, pd25, pd26, pd27, pd28, pd29, pd30, pd31, pd32, pd33, pd34, pd35, pd36, pd37, pd38, pd39, pd40, pd41, pd42, pd43, pd44, pd45, pd46, pd47, pd48, pd49, pd50, pd51, pd52, pd53, pd54, pd55],
  clss := [pc0, pc1, pc2, pc3, pc4, pc5],
  attrs := ["top", "root", "bottom", "corner", "direction", "point", "value"],
  subs := [(0, 0), (1, 1), (1, 0), (2, 2), (2, 0), (3, 3), (3, 0), (4, 4), (4, 0), (5, 5)],
  glos := [] }
theorem r0 (n : Nat) (x0 : D) (S : Sto) : Tk.call P (n + 1) 0 [x0] S = fin S.length (evB P (Tk.call P n) b0 [.val x0] S) := rfl
theorem r1 (n : Nat) (x0 x1 : D) (S : Sto) : Tk.call P (n + 1) 1 [x0, x1] S = fin S.length (evB P (Tk.call P n) b1 [.val x0, .val x1] S) := rfl
theorem r2 (n : Nat) (x0 : D) (S : Sto) : Tk.call P (n + 1) 2 [x0] S = fin S.length (evB P (Tk.call P n) b2 [.val x0, .emp, .emp] S) := rfl
theorem r3 (n : Nat) (x0 x1 x2 x3 : D) (S : Sto) : Tk.call P (n + 1) 3 [x0, x1, x2, x3] S = fin S.length (evB P (Tk.call P n) b3 [.val x0, .val x1, .val x2, .val x3, .emp, .emp] S) := rfl
theorem r4 (n : Nat) (x0 x1 : D) (S : Sto) : Tk.call P (n + 1) 4 [x0, x1] S = fin S.length (evB P (Tk.call P n) b4 [.val x0, .val x1] S) := rfl
theorem r5 (n : Nat) (x0 : D) (S : Sto) : Tk.call P (n + 1) 5 [x0] S = fin S.length (evB P (Tk.call P n) b5 [.val x0] S) := rfl
theorem r6 (n : Nat) (x0 x1 : D) (S : Sto) : Tk.call P (n + 1) 6 [x0, x1] S = fin S.length (evB P (Tk.call P n) b6 [.val x0, .val x1, .emp] S) := rfl
theorem r7 (n : Nat) (x0 x1 : D) (S : Sto) : Tk.call P (n + 1) 7 [x0, x1] S = fin S.length (evB P (Tk.call P n) b7 [.val x0, .val x1] S) := rfl
theorem r8 (n : Nat) (x0 x1 : D) (S : Sto) : Tk.call P (n + 1) 8 [x0, x1] S = fin S.length (evB P (Tk.call P n) b8 [.val x0, .val x1, .emp] S) := rfl
theorem r9 (n : Nat) (x0 x1 : D) (S : Sto) : Tk.call P (n + 1) 9 [x0, x1] S = fin S.length (evB P (Tk.call P n) b9 [.val x0, .val x1] S) := rfl
theorem r10 (n : Nat) (x0 x1 : D) (S : Sto) : Tk.call P (n + 1) 10 [x0, x1] S = fin S.length (evB P (Tk.call P n) b10 [.val x0, .val x1, .emp] S) := rfl
theorem r11 (n : Nat) (x0 x1 : D) (S : Sto) : Tk.call P (n + 1) 11 [x0, x1] S = fin S.length (evB P (Tk.call P n) b11 [.val x0, .val x1] S) := rfl
theorem r12 (n : Nat) (x0 : D) (S : Sto) : Tk.call P (n + 1) 12 [x0] S = fin S.length (evB P (Tk.call P n) b12 [.val x0, .emp, .emp] S) := rfl
theorem r13 (n : Nat) (x0 : D) (S : Sto) : Tk.call P (n + 1) 13 [x0] S = fin S.length (evB P (Tk.call P n) b13 [.val x0] S) := rfl
theorem r14 (n : Nat) (x0 : D) (S : Sto) : Tk.call P (n + 1) 14 [x0] S = fin S.length (evB P (Tk.call P n) b14 [.val x0] S) := rfl
theorem r15 (n : Nat) (x0 : D) (S : Sto) : Tk.call P (n + 1) 15 [x0] S = fin S.length (evB P (Tk.call P n) b15 [.val x0] S) := rfl
theorem r16 (n : Nat) (x0 : D) (S : Sto) : Tk.call P (n + 1) 16 [x0] S = fin S.length (evB P (Tk.call P n) b16 [.val x0] S) := rfl
theorem r17 (n : Nat) (x0 : D) (S : Sto) : Tk.call P (n + 1) 17 [x0] S = fin S.length (evB P (Tk.call P n) b17 [.val x0] S) := rfl
theorem r18 (n : Nat) (x0 x1 : D) (S : Sto) : Tk.call P (n + 1) 18 [x0, x1] S = fin S.length (evB P (Tk.call P n) b18 [.val x0, .val x1] S) := rfl
theorem r19 (n : Nat) (x0 : D) (S : Sto) : Tk.call P (n + 1) 19 [x0] S = fin S.length (evB P (Tk.call P n) b19 [.val x0] S) := rfl
theorem r20 (n : Nat) (x0 : D) (S : Sto) : Tk.call P (n + 1) 20 [x0] S = fin S.length (evB P (Tk.call P n) b20 [.val x0, .emp] S) := rfl
theorem r21 (n : Nat) (x0 : D) (S : Sto) : Tk.call P (n + 1) 21 [x0] S = fin S.length (evB P (Tk.call P n) b21 [.val x0] S) := rfl
theorem r22 (n : Nat) (x0 : D) (S : Sto) : Tk.call P (n + 1) 22 [x0] S = fin S.length (evB P (Tk.call P n) b22 [.val x0] S) := rfl
theorem r23 (n : Nat) (x0 : D) (S : Sto) : Tk.call P (n + 1) 23 [x0] S = fin S.length (evB P (Tk.call P n) b23 [.val x0] S) := rfl
theorem r24 (n : Nat) (x0 x1 x2 : D) (S : Sto) : Tk.call P (n + 1) 24 [x0, x1, x2] S = fin S.length (evB P (Tk.call P n) b24 [.val x0, .val x1, .val x2, .emp, .emp] S) := rfl
theorem r25 (n : Nat) (x0 x1 x2 : D) (S : Sto) : Tk.call P (n + 1) 25 [x0, x1, x2] S = fin S.length (evB P (Tk.call P n) b25 [.val x0, .val x1, .val x2] S) := rfl
theorem r26 (n : Nat) (x0 : D) (S : Sto) : Tk.call P (n + 1) 26 [x0] S = fin S.length (evB P (Tk.call P n) b26 [.val x0] S) := rfl
theorem r27 (n : Nat) (x0 : D) (S : Sto) : Tk.call P (n + 1) 27 [x0] S = fin S.length (evB P (Tk.call P n) b27 [.val x0] S) := rfl
theorem r28 (n : Nat) (x0 : D) (S : Sto) : Tk.call P (n + 1) 28 [x0] S = fin S.length (evB P (Tk.call P n) b28 [.val x0] S) := rfl
theorem r29 (n : Nat) (x0 : D) (S : Sto) : Tk.call P (n + 1) 29 [x0] S = fin S.length (evB P (Tk.call P n) b29 [.val x0] S) := rfl
theorem r30 (n : Nat) (x0 x1 x2 x3 : D) (S : Sto) : Tk.call P (n + 1) 30 [x0, x1, x2, x3] S = fin S.length (evB P (Tk.call P n) b30 [.val x0, .val x1, .val x2, .val x3] S) := rfl
theorem r31 (n : Nat) (x0 : D) (S : Sto) : Tk.call P (n + 1) 31 [x0] S = fin S.length (evB P (Tk.call P n) b31 [.val x0] S) := rfl
theorem r32 (n : Nat) (x0 : D) (S : Sto) : Tk.call P (n + 1) 32 [x0] S = fin S.length (evB P (Tk.call P n) b32 [.val x0, .emp, .emp, .emp, .emp] S) := rfl
theorem r33 (n : Nat) (x0 : D) (S : Sto) : Tk.call P (n + 1) 33 [x0] S = fin S.length (evB P (Tk.call P n) b33 [.val x0, .emp, .emp, .emp, .emp] S) := rfl
theorem r34 (n : Nat) (x0 : D) (S : Sto) : Tk.call P (n + 1) 34 [x0] S = fin S.length (evB P (Tk.call P n) b34 [.val x0] S) := rfl
theorem r35 (n : Nat) (x0 x1 : D) (S : Sto) : Tk.call P (n + 1) 35 [x0, x1] S = fin S.length (evB P (Tk.call P n) b35 [.val x0, .val x1, .emp] S) := rfl
theorem r36 (n : Nat) (x0 x1 : D) (S : Sto) : Tk.call P (n + 1) 36 [x0, x1] S = fin S.length (evB P (Tk.call P n) b36 [.val x0, .val x1, .emp, .emp, .emp, .emp, .emp, .emp] S) := rfl
theorem r37 (n : Nat) (x0 x1 x2 : D) (S : Sto) : Tk.call P (n + 1) 37 [x0, x1, x2] S = fin S.length (evB P (Tk.call P n) b37 [.val x0, .val x1, .val x2] S) := rfl
theorem r38 (n : Nat) (x0 x1 : D) (S : Sto) : Tk.call P (n + 1) 38 [x0, x1] S = fin S.length (evB P (Tk.call P n) b38 [.val x0, .val x1] S) := rfl
theorem r39 (n : Nat) (x0 x1 : D) (S : Sto) : Tk.call P (n + 1) 39 [x0, x1] S = fin S.length (evB P (Tk.call P n) b39 [.val x0, .val x1, .emp] S) := rfl
theorem r40 (n : Nat) (x0 : D) (S : Sto) : Tk.call P (n + 1) 40 [x0] S = fin S.length (evB P (Tk.call P n) b40 [.val x0, .emp] S) := rfl
theorem r41 (n : Nat) (x0 x1 : D) (S : Sto) : Tk.call P (n + 1) 41 [x0, x1] S = fin S.length (evB P (Tk.call P n) b41 [.val x0, .val x1, .emp] S) := rfl
theorem r42 (n : Nat) (x0 x1 x2 : D) (S : Sto) : Tk.call P (n + 1) 42 [x0, x1, x2] S = fin S.length (evB P (Tk.call P n) b42 [.val x0, .val x1, .val x2] S) := rfl
theorem r43 (n : Nat) (x0 : D) (S : Sto) : Tk.call P (n + 1) 43 [x0] S = fin S.length (evB P (Tk.call P n) b43 [.val x0] S) := rfl
theorem r44 (n : Nat) (x0 : D) (S : Sto) : Tk.call P (n + 1) 44 [x0] S = fin S.length (evB P (Tk.call P n) b44 [.val x0] S) := rfl
theorem r45 (n : Nat) (x0 : D) (S : Sto) : Tk.call P (n + 1) 45 [x0] S = fin S.length (evB P (Tk.call P n) b45 [.val x0, .emp, .emp, .emp] S) := rfl
theorem r46 (n : Nat) (x0 : D) (S : Sto) : Tk.call P (n + 1) 46 [x0] S = fin S.length (evB P (Tk.call P n) b46 [.val x0] S) := rfl
theorem r47 (n : Nat) (x0 x1 x2 : D) (S : Sto) : Tk.call P (n + 1) 47 [x0, x1, x2] S = fin S.length (evB P (Tk.call P n) b47 [.val x0, .val x1, .val x2, .emp] S) := rfl
theorem r48 (n : Nat) (x0 : D) (S : Sto) : Tk.call P (n + 1) 48 [x0] S = fin S.length (evB P (Tk.call P n) b48 [.val x0, .emp] S) := rfl
theorem r49 (n : Nat) (x0 x1 : D) (S : Sto) : Tk.call P (n + 1) 49 [x0, x1] S = fin S.length (evB P (Tk.call P n) b49 [.val x0, .val x1, .emp, .emp, .emp] S) := rfl
theorem r50 (n : Nat) (x0 x1 x2 : D) (S : Sto) : Tk.call P (n + 1) 50 [x0, x1, x2] S = fin S.length (evB P (Tk.call P n) b50 [.val x0, .val x1, .val x2, .emp, .emp] S) := rfl
theorem r51 (n : Nat) (x0 : D) (S : Sto) : Tk.call P (n + 1) 51 [x0] S = fin S.length (evB P (Tk.call P n) b51 [.val x0, .emp, .emp] S) := rfl
theorem r52 (n : Nat) (x0 : D) (S : Sto) : Tk.call P (n + 1) 52 [x0] S = fin S.length (evB P (Tk.call P n) b52 [.val x0, .emp] S) := rfl
theorem r53 (n : Nat) (x0 x1 x2 : D) (S : Sto) : Tk.call P (n + 1) 53 [x0, x1, x2] S = fin S.length (evB P (Tk.call P n) b53 [.val x0, .val x1, .val x2, .emp, .emp, .emp, .emp, .emp] S) := rfl
theorem r54 (n : Nat) (x0 x1 x2 : D) (S : Sto) : Tk.call P (n + 1) 54 [x0, x1, x2] S = fin S.length (evB P (Tk.call P n) b54 [.val x0, .val x1, .val x2, .emp, .emp, .emp, .emp] S) := rfl
theorem r55 (n : Nat) (x0 : D) (S : Sto) : Tk.call P (n + 1) 55 [x0] S = fin S.length (evB P (Tk.call P n) b55 [.val x0, .emp, .emp, .emp, .emp, .emp, .emp, .emp, .emp, .emp, .emp, .emp, .emp, .emp, .emp, .emp, .emp, .emp] S) := rfl
theorem p_exc0 : Prog.exc? P 0 = true := rfl
theorem p_nf0 : nflds P 0 = 0 := rfl
theorem p_exc1 : Prog.exc? P 1 = true := rfl
theorem p_nf1 : nflds P 1 = 1 := rfl
theorem p_f1_6 : fpos P 1 6 = some 0 := by decide +kernel
theorem p_exc2 : Prog.exc? P 2 = true := rfl
theorem p_nf2 : nflds P 2 = 1 := rfl
theorem p_f2_5 : fpos P 2 5 = some 0 := by decide +kernel
theorem p_exc3 : Prog.exc? P 3 = true := rfl
theorem p_nf3 : nflds P 3 = 1 := rfl
theorem p_f3_3 : fpos P 3 3 = some 0 := by decide +kernel
theorem p_exc4 : Prog.exc? P 4 = true := rfl
theorem p_nf4 : nflds P 4 = 1 := rfl
theorem p_f4_4 : fpos P 4 4 = some 0 := by decide +kernel
theorem p_cls5 : Prog.cls? P 5 = true := rfl
theorem p_nf5 : nflds P 5 = 3 := rfl
theorem p_f5_0 : fpos P 5 0 = some 0 := by decide +kernel
theorem p_f5_1 : fpos P 5 1 = some 1 := by decide +kernel
theorem p_f5_2 : fpos P 5 2 = some 2 := by decide +kernel
theorem p_eq5 (fs : List D) : Prog.eqOf P (.obj 5 fs) = some 4 := rfl
theorem p_op5_add (fs : List D) : Prog.opOf P .add (.obj 5 fs) = some (6, 7) := by rfl
theorem p_op5_sub (fs : List D) : Prog.opOf P .sub (.obj 5 fs) = some (8, 9) := by rfl
theorem p_op5_mul (fs : List D) : Prog.opOf P .mul (.obj 5 fs) = some (10, 11) := by rfl
theorem p_neg5 : (P.clss[5]?).bind (·.neg) = some 5 := rfl
theorem p_sub0_0 : Prog.subB P 0 0 = true := by decide +kernel
theorem p_in0_0 : decide ((0, 0) ∈ P.subs) = true := by decide +kernel
theorem p_sub0_1 : Prog.subB P 0 1 = false := by decide +kernel
theorem p_in0_1 : decide ((0, 1) ∈ P.subs) = false := by decide +kernel
theorem p_sub0_2 : Prog.subB P 0 2 = false := by decide +kernel
theorem p_in0_2 : decide ((0, 2) ∈ P.subs) = false := by decide +kernel
theorem p_sub0_3 : Prog.subB P 0 3 = false := by decide +kernel
theorem p_in0_3 : decide ((0, 3) ∈ P.subs) = false := by decide +kernel
theorem p_sub0_4 : Prog.subB P 0 4 = false := by decide +kernel
theorem p_in0_4 : decide ((0, 4) ∈ P.subs) = false := by decide +kernel
theorem p_sub1_0 : Prog.subB P 1 0 = true := by decide +kernel
theorem p_in1_0 : decide ((1, 0) ∈ P.subs) = true := by decide +kernel
theorem p_sub1_1 : Prog.subB P 1 1 = true := by decide +kernel
theorem p_in1_1 : decide ((1, 1) ∈ P.subs) = true := by decide +kernel
theorem p_sub1_2 : Prog.subB P 1 2 = false := by decide +kernel
theorem p_in1_2 : decide ((1, 2) ∈ P.subs) = false := by decide +kernel
theorem p_sub1_3 : Prog.subB P 1 3 = false := by decide +kernel
theorem p_in1_3 : decide ((1, 3) ∈ P.subs) = false := by decide +kernel
theorem p_sub1_4 : Prog.subB P 1 4 = false := by decide +kernel
theorem p_in1_4 : decide ((1, 4) ∈ P.subs) = false := by decide +kernel
theorem p_sub2_0 : Prog.subB P 2 0 = true := by decide +kernel
theorem p_in2_0 : decide ((2, 0) ∈ P.subs) = true := by decide +kernel
theorem p_sub2_1 : Prog.subB P 2 1 = false := by decide +kernel
theorem p_in2_1 : decide ((2, 1) ∈ P.subs) = false := by decide +kernel
theorem p_sub2_2 : Prog.subB P 2 2 = true := by decide +kernel
theorem p_in2_2 : decide ((2, 2) ∈ P.subs) = true := by decide +kernel
theorem p_sub2_3 : Prog.subB P 2 3 = false := by decide +kernel
theorem p_in2_3 : decide ((2, 3) ∈ P.subs) = false := by decide +kernel
theorem p_sub2_4 : Prog.subB P 2 4 = false := by decide +kernel
theorem p_in2_4 : decide ((2, 4) ∈ P.subs) = false := by decide +kernel
theorem p_sub3_0 : Prog.subB P 3 0 = true := by decide +kernel
theorem p_in3_0 : decide ((3, 0) ∈ P.subs) = true := by decide +kernel
theorem p_sub3_1 : Prog.subB P 3 1 = false := by decide +kernel
theorem p_in3_1 : decide ((3, 1) ∈ P.subs) = false := by decide +kernel
theorem p_sub3_2 : Prog.subB P 3 2 = false := by decide +kernel
theorem p_in3_2 : decide ((3, 2) ∈ P.subs) = false := by decide +kernel
theorem p_sub3_3 : Prog.subB P 3 3 = true := by decide +kernel
theorem p_in3_3 : decide ((3, 3) ∈ P.subs) = true := by decide +kernel
theorem p_sub3_4 : Prog.subB P 3 4 = false := by decide +kernel
theorem p_in3_4 : decide ((3, 4) ∈ P.subs) = false := by decide +kernel
theorem p_sub4_0 : Prog.subB P 4 0 = true := by decide +kernel
theorem p_in4_0 : decide ((4, 0) ∈ P.subs) = true := by decide +kernel
theorem p_sub4_1 : Prog.subB P 4 1 = false := by decide +kernel
theorem p_in4_1 : decide ((4, 1) ∈ P.subs) = false := by decide +kernel
theorem p_sub4_2 : Prog.subB P 4 2 = false := by decide +kernel
theorem p_in4_2 : decide ((4, 2) ∈ P.subs) = false := by decide +kernel
theorem p_sub4_3 : Prog.subB P 4 3 = false := by decide +kernel
theorem p_in4_3 : decide ((4, 3) ∈ P.subs) = false := by decide +kernel
theorem p_sub4_4 : Prog.subB P 4 4 = true := by decide +kernel
theorem p_in4_4 : decide ((4, 4) ∈ P.subs) = true := by decide +kernel
end Pg
namespace Pg
open Tk PySem
def top (i : Nat) : Stmt := PySem.Challenge.pw_threetiles_k04_places_and_stars.main.body.getD i (.Pass ⟨0, 0, 0, 0⟩)
def clB : Stmt → List Stmt
  | .ClassDef (body := b) .. => b
  | _ => []
def mth (i j : Nat) : Stmt := (clB (top i)).getD j (.Pass ⟨0, 0, 0, 0⟩)
def dd0 : He.DefD := ⟨("is_integer", none), "is_integer", "is_integer", L2.defArgs (top 8), L2.defBody (top 8), L2.defScope (top 8), [], []⟩
def dd1 : He.DefD := ⟨("common", none), "common", "common", L2.defArgs (top 9), L2.defBody (top 9), L2.defScope (top 9), [], []⟩
def dd2 : He.DefD := ⟨("whole_root", none), "whole_root", "whole_root", L2.defArgs (top 10), L2.defBody (top 10), L2.defScope (top 10), [], []⟩
def dd3 : He.DefD := ⟨("Root", some "__init__"), "__init__", "Root.__init__", L2.defArgs (mth 11 0), L2.defBody (mth 11 0), L2.defScope (mth 11 0), [], []⟩
def dd4 : He.DefD := ⟨("Root", some "__eq__"), "__eq__", "Root.__eq__", L2.defArgs (mth 11 1), L2.defBody (mth 11 1), L2.defScope (mth 11 1), [], []⟩
def dd5 : He.DefD := ⟨("Root", some "__neg__"), "__neg__", "Root.__neg__", L2.defArgs (mth 11 2), L2.defBody (mth 11 2), L2.defScope (mth 11 2), [], []⟩
def dd6 : He.DefD := ⟨("Root", some "__add__"), "__add__", "Root.__add__", L2.defArgs (mth 11 3), L2.defBody (mth 11 3), L2.defScope (mth 11 3), [], []⟩
def dd7 : He.DefD := ⟨("Root", some "__radd__"), "__radd__", "Root.__radd__", L2.defArgs (mth 11 4), L2.defBody (mth 11 4), L2.defScope (mth 11 4), [], []⟩
def dd8 : He.DefD := ⟨("Root", some "__sub__"), "__sub__", "Root.__sub__", L2.defArgs (mth 11 5), L2.defBody (mth 11 5), L2.defScope (mth 11 5), [], []⟩
def dd9 : He.DefD := ⟨("Root", some "__rsub__"), "__rsub__", "Root.__rsub__", L2.defArgs (mth 11 6), L2.defBody (mth 11 6), L2.defScope (mth 11 6), [], []⟩
def dd10 : He.DefD := ⟨("Root", some "__mul__"), "__mul__", "Root.__mul__", L2.defArgs (mth 11 7), L2.defBody (mth 11 7), L2.defScope (mth 11 7), [], []⟩
def dd11 : He.DefD := ⟨("Root", some "__rmul__"), "__rmul__", "Root.__rmul__", L2.defArgs (mth 11 8), L2.defBody (mth 11 8), L2.defScope (mth 11 8), [], []⟩
def dd12 : He.DefD := ⟨("Root", some "whole"), "whole", "Root.whole", L2.defArgs (mth 11 12), L2.defBody (mth 11 12), L2.defScope (mth 11 12), [], []⟩
def dd13 : He.DefD := ⟨("is_number", none), "is_number", "is_number", L2.defArgs (top 12), L2.defBody (top 12), L2.defScope (top 12), [], []⟩
def dd14 : He.DefD := ⟨("as_root", none), "as_root", "as_root", L2.defArgs (top 13), L2.defBody (top 13), L2.defScope (top 13), [], []⟩
def dd15 : He.DefD := ⟨("is_point", none), "is_point", "is_point", L2.defArgs (top 15), L2.defBody (top 15), L2.defScope (top 15), [], []⟩
def dd16 : He.DefD := ⟨("check_point", none), "check_point", "check_point", L2.defArgs (top 16), L2.defBody (top 16), L2.defScope (top 16), [], []⟩
def dd17 : He.DefD := ⟨("as_roots", none), "as_roots", "as_roots", L2.defArgs (top 17), L2.defBody (top 17), L2.defScope (top 17), [], []⟩
def dd18 : He.DefD := ⟨("taken", none), "taken", "taken", L2.defArgs (top 18), L2.defBody (top 18), L2.defScope (top 18), [], []⟩
def dd19 : He.DefD := ⟨("square", none), "square", "square", L2.defArgs (top 19), L2.defBody (top 19), L2.defScope (top 19), [], []⟩
def dd20 : He.DefD := ⟨("is_corner", none), "is_corner", "is_corner", L2.defArgs (top 21), L2.defBody (top 21), L2.defScope (top 21), [], []⟩
def dd21 : He.DefD := ⟨("check_corner", none), "check_corner", "check_corner", L2.defArgs (top 22), L2.defBody (top 22), L2.defScope (top 22), [], []⟩
def dd22 : He.DefD := ⟨("is_direction", none), "is_direction", "is_direction", L2.defArgs (top 23), L2.defBody (top 23), L2.defScope (top 23), [], []⟩
def dd23 : He.DefD := ⟨("check_direction", none), "check_direction", "check_direction", L2.defArgs (top 24), L2.defBody (top 24), L2.defScope (top 24), [], []⟩
def dd24 : He.DefD := ⟨("gone", none), "gone", "gone", L2.defArgs (top 25), L2.defBody (top 25), L2.defScope (top 25), [], []⟩
def dd25 : He.DefD := ⟨("stepped", none), "stepped", "stepped", L2.defArgs (top 26), L2.defBody (top 26), L2.defScope (top 26), [], []⟩
def dd26 : He.DefD := ⟨("place_of", none), "place_of", "place_of", L2.defArgs (top 27), L2.defBody (top 27), L2.defScope (top 27), [], []⟩
def dd27 : He.DefD := ⟨("star_of", none), "star_of", "star_of", L2.defArgs (top 28), L2.defBody (top 28), L2.defScope (top 28), [], []⟩
def dd28 : He.DefD := ⟨("place", none), "place", "place", L2.defArgs (top 29), L2.defBody (top 29), L2.defScope (top 29), [], []⟩
def dd29 : He.DefD := ⟨("star", none), "star", "star", L2.defArgs (top 30), L2.defBody (top 30), L2.defScope (top 30), [], []⟩
def dd30 : He.DefD := ⟨("from_parts", none), "from_parts", "from_parts", L2.defArgs (top 31), L2.defBody (top 31), L2.defScope (top 31), [], []⟩
def dd31 : He.DefD := ⟨("parts_of", none), "parts_of", "parts_of", L2.defArgs (top 32), L2.defBody (top 32), L2.defScope (top 32), [], []⟩
def dd32 : He.DefD := ⟨("corner_at", none), "corner_at", "corner_at", L2.defArgs (top 33), L2.defBody (top 33), L2.defScope (top 33), [], []⟩
def dd33 : He.DefD := ⟨("corner_with", none), "corner_with", "corner_with", L2.defArgs (top 34), L2.defBody (top 34), L2.defScope (top 34), [], []⟩
def dd34 : He.DefD := ⟨("_law_start", none), "_law_start", "_law_start", L2.defArgs (top 36), L2.defBody (top 36), L2.defScope (top 36), [], []⟩
def dd35 : He.DefD := ⟨("_law_mixed", none), "_law_mixed", "_law_mixed", L2.defArgs (top 37), L2.defBody (top 37), L2.defScope (top 37), [], []⟩
def dd36 : He.DefD := ⟨("_law_draw", none), "_law_draw", "_law_draw", L2.defArgs (top 38), L2.defBody (top 38), L2.defScope (top 38), [], []⟩
def dd37 : He.DefD := ⟨("_law_between", none), "_law_between", "_law_between", L2.defArgs (top 39), L2.defBody (top 39), L2.defScope (top 39), [], []⟩
def dd38 : He.DefD := ⟨("_law_plus", none), "_law_plus", "_law_plus", L2.defArgs (top 40), L2.defBody (top 40), L2.defScope (top 40), [], []⟩
def dd39 : He.DefD := ⟨("_law_common", none), "_law_common", "_law_common", L2.defArgs (top 41), L2.defBody (top 41), L2.defScope (top 41), [], []⟩
def dd40 : He.DefD := ⟨("_law_lowest", none), "_law_lowest", "_law_lowest", L2.defArgs (top 42), L2.defBody (top 42), L2.defScope (top 42), [], []⟩
def dd41 : He.DefD := ⟨("_law_is_root", none), "_law_is_root", "_law_is_root", L2.defArgs (top 43), L2.defBody (top 43), L2.defScope (top 43), [], []⟩
def dd42 : He.DefD := ⟨("_law_is_point", none), "_law_is_point", "_law_is_point", L2.defArgs (top 44), L2.defBody (top 44), L2.defScope (top 44), [], []⟩
def dd43 : He.DefD := ⟨("_law_place", none), "_law_place", "_law_place", L2.defArgs (top 45), L2.defBody (top 45), L2.defScope (top 45), [], []⟩
def dd44 : He.DefD := ⟨("_law_star", none), "_law_star", "_law_star", L2.defArgs (top 46), L2.defBody (top 46), L2.defScope (top 46), [], []⟩
def dd45 : He.DefD := ⟨("_law_corner", none), "_law_corner", "_law_corner", L2.defArgs (top 47), L2.defBody (top 47), L2.defScope (top 47), [], []⟩
def dd46 : He.DefD := ⟨("_law_given", none), "_law_given", "_law_given", L2.defArgs (top 48), L2.defBody (top 48), L2.defScope (top 48), [], []⟩
def dd47 : He.DefD := ⟨("_law_step", none), "_law_step", "_law_step", L2.defArgs (top 49), L2.defBody (top 49), L2.defScope (top 49), [], []⟩
def dd48 : He.DefD := ⟨("_law_is_corner", none), "_law_is_corner", "_law_is_corner", L2.defArgs (top 50), L2.defBody (top 50), L2.defScope (top 50), [], []⟩
def dd49 : He.DefD := ⟨("_law_bad_corner", none), "_law_bad_corner", "_law_bad_corner", L2.defArgs (top 51), L2.defBody (top 51), L2.defScope (top 51), [], []⟩
def dd50 : He.DefD := ⟨("_law_refused", none), "_law_refused", "_law_refused", L2.defArgs (top 52), L2.defBody (top 52), L2.defScope (top 52), [], []⟩
def dd51 : He.DefD := ⟨("_law_no_point", none), "_law_no_point", "_law_no_point", L2.defArgs (top 53), L2.defBody (top 53), L2.defScope (top 53), [], []⟩
def dd52 : He.DefD := ⟨("_law_whole_parts", none), "_law_whole_parts", "_law_whole_parts", L2.defArgs (top 54), L2.defBody (top 54), L2.defScope (top 54), [], []⟩
def dd53 : He.DefD := ⟨("_law_corner_of", none), "_law_corner_of", "_law_corner_of", L2.defArgs (top 55), L2.defBody (top 55), L2.defScope (top 55), [], []⟩
def dd54 : He.DefD := ⟨("_law_led_back", none), "_law_led_back", "_law_led_back", L2.defArgs (top 56), L2.defBody (top 56), L2.defScope (top 56), [], []⟩
def dd55 : He.DefD := ⟨("law", none), "law", "law", L2.defArgs (top 57), L2.defBody (top 57), L2.defScope (top 57), [], []⟩
def xd1 : He.DefD := ⟨("BadNumber", some "__init__"), "__init__", "BadNumber.__init__", L2.defArgs (mth 3 0), L2.defBody (mth 3 0), L2.defScope (mth 3 0), [], []⟩
def xd2 : He.DefD := ⟨("BadPoint", some "__init__"), "__init__", "BadPoint.__init__", L2.defArgs (mth 4 0), L2.defBody (mth 4 0), L2.defScope (mth 4 0), [], []⟩
def xd3 : He.DefD := ⟨("BadCorner", some "__init__"), "__init__", "BadCorner.__init__", L2.defArgs (mth 5 0), L2.defBody (mth 5 0), L2.defScope (mth 5 0), [], []⟩
def xd4 : He.DefD := ⟨("BadDirection", some "__init__"), "__init__", "BadDirection.__init__", L2.defArgs (mth 6 0), L2.defBody (mth 6 0), L2.defScope (mth 6 0), [], []⟩
def fnW : List He.DefD := [dd0, dd1, dd2, dd3, dd4, dd5, dd6, dd7, dd8, dd9, dd10, dd11, dd12, dd13, dd14, dd15, dd16, dd17, dd18, dd19, dd20, dd21, dd22, dd23, dd24, dd25, dd26, dd27, dd28, dd29, dd30, dd31, dd32, dd33, dd34, dd35, dd36, dd37, dd38, dd39, dd40, dd41, dd42, dd43, dd44, dd45, dd46, dd47, dd48, dd49, dd50, dd51, dd52, dd53, dd54, dd55]
def fnX : List He.DefD := [xd1, xd2, xd3, xd4]
theorem w0 : DefW P pd0 dd0 := ⟨rfl, rfl, ⟨rfl, rfl, rfl, by decide +kernel, rfl, by decide +kernel, by decide +kernel⟩, rfl, by decide +kernel, fun _ _ _ _ _ _ us hl => match us, hl with | [_], _ => rfl⟩
theorem w1 : DefW P pd1 dd1 := ⟨rfl, rfl, ⟨rfl, rfl, rfl, by decide +kernel, rfl, by decide +kernel, by decide +kernel⟩, rfl, by decide +kernel, fun _ _ _ _ _ _ us hl => match us, hl with | [_, _], _ => rfl⟩
theorem w2 : DefW P pd2 dd2 := ⟨rfl, rfl, ⟨rfl, rfl, rfl, by decide +kernel, rfl, by decide +kernel, by decide +kernel⟩, rfl, by decide +kernel, fun _ _ _ _ _ _ us hl => match us, hl with | [_], _ => rfl⟩
theorem w3 : DefW P pd3 dd3 := ⟨rfl, rfl, ⟨rfl, rfl, rfl, by decide +kernel, rfl, by decide +kernel, by decide +kernel⟩, rfl, by decide +kernel, fun _ _ _ _ _ _ us hl => match us, hl with | [_, _, _, _], _ => rfl⟩
theorem w4 : DefW P pd4 dd4 := ⟨rfl, rfl, ⟨rfl, rfl, rfl, by decide +kernel, rfl, by decide +kernel, by decide +kernel⟩, rfl, by decide +kernel, fun _ _ _ _ _ _ us hl => match us, hl with | [_, _], _ => rfl⟩
theorem w5 : DefW P pd5 dd5 := ⟨rfl, rfl, ⟨rfl, rfl, rfl, by decide +kernel, rfl, by decide +kernel, by decide +kernel⟩, rfl, by decide +kernel, fun _ _ _ _ _ _ us hl => match us, hl with | [_], _ => rfl⟩
theorem w6 : DefW P pd6 dd6 := ⟨rfl, rfl, ⟨rfl, rfl, rfl, by decide +kernel, rfl, by decide +kernel, by decide +kernel⟩, rfl, by decide +kernel, fun _ _ _ _ _ _ us hl => match us, hl with | [_, _], _ => rfl⟩
theorem w7 : DefW P pd7 dd7 := ⟨rfl, rfl, ⟨rfl, rfl, rfl, by decide +kernel, rfl, by decide +kernel, by decide +kernel⟩, rfl, by decide +kernel, fun _ _ _ _ _ _ us hl => match us, hl with | [_, _], _ => rfl⟩
theorem w8 : DefW P pd8 dd8 := ⟨rfl, rfl, ⟨rfl, rfl, rfl, by decide +kernel, rfl, by decide +kernel, by decide +kernel⟩, rfl, by decide +kernel, fun _ _ _ _ _ _ us hl => match us, hl with | [_, _], _ => rfl⟩
theorem w9 : DefW P pd9 dd9 := ⟨rfl, rfl, ⟨rfl, rfl, rfl, by decide +kernel, rfl, by decide +kernel, by decide +kernel⟩, rfl, by decide +kernel, fun _ _ _ _ _ _ us hl => match us, hl with | [_, _], _ => rfl⟩
theorem w10 : DefW P pd10 dd10 := ⟨rfl, rfl, ⟨rfl, rfl, rfl, by decide +kernel, rfl, by decide +kernel, by decide +kernel⟩, rfl, by decide +kernel, fun _ _ _ _ _ _ us hl => match us, hl with | [_, _], _ => rfl⟩
theorem w11 : DefW P pd11 dd11 := ⟨rfl, rfl, ⟨rfl, rfl, rfl, by decide +kernel, rfl, by decide +kernel, by decide +kernel⟩, rfl, by decide +kernel, fun _ _ _ _ _ _ us hl => match us, hl with | [_, _], _ => rfl⟩
theorem w12 : DefW P pd12 dd12 := ⟨rfl, rfl, ⟨rfl, rfl, rfl, by decide +kernel, rfl, by decide +kernel, by decide +kernel⟩, rfl, by decide +kernel, fun _ _ _ _ _ _ us hl => match us, hl with | [_], _ => rfl⟩
theorem w13 : DefW P pd13 dd13 := ⟨rfl, rfl, ⟨rfl, rfl, rfl, by decide +kernel, rfl, by decide +kernel, by decide +kernel⟩, rfl, by decide +kernel, fun _ _ _ _ _ _ us hl => match us, hl with | [_], _ => rfl⟩
theorem w14 : DefW P pd14 dd14 := ⟨rfl, rfl, ⟨rfl, rfl, rfl, by decide +kernel, rfl, by decide +kernel, by decide +kernel⟩, rfl, by decide +kernel, fun _ _ _ _ _ _ us hl => match us, hl with | [_], _ => rfl⟩
theorem w15 : DefW P pd15 dd15 := ⟨rfl, rfl, ⟨rfl, rfl, rfl, by decide +kernel, rfl, by decide +kernel, by decide +kernel⟩, rfl, by decide +kernel, fun _ _ _ _ _ _ us hl => match us, hl with | [_], _ => rfl⟩
theorem w16 : DefW P pd16 dd16 := ⟨rfl, rfl, ⟨rfl, rfl, rfl, by decide +kernel, rfl, by decide +kernel, by decide +kernel⟩, rfl, by decide +kernel, fun _ _ _ _ _ _ us hl => match us, hl with | [_], _ => rfl⟩
theorem w17 : DefW P pd17 dd17 := ⟨rfl, rfl, ⟨rfl, rfl, rfl, by decide +kernel, rfl, by decide +kernel, by decide +kernel⟩, rfl, by decide +kernel, fun _ _ _ _ _ _ us hl => match us, hl with | [_], _ => rfl⟩
theorem w18 : DefW P pd18 dd18 := ⟨rfl, rfl, ⟨rfl, rfl, rfl, by decide +kernel, rfl, by decide +kernel, by decide +kernel⟩, rfl, by decide +kernel, fun _ _ _ _ _ _ us hl => match us, hl with | [_, _], _ => rfl⟩
theorem w19 : DefW P pd19 dd19 := ⟨rfl, rfl, ⟨rfl, rfl, rfl, by decide +kernel, rfl, by decide +kernel, by decide +kernel⟩, rfl, by decide +kernel, fun _ _ _ _ _ _ us hl => match us, hl with | [_], _ => rfl⟩
theorem w20 : DefW P pd20 dd20 := ⟨rfl, rfl, ⟨rfl, rfl, rfl, by decide +kernel, rfl, by decide +kernel, by decide +kernel⟩, rfl, by decide +kernel, fun _ _ _ _ _ _ us hl => match us, hl with | [_], _ => rfl⟩
theorem w21 : DefW P pd21 dd21 := ⟨rfl, rfl, ⟨rfl, rfl, rfl, by decide +kernel, rfl, by decide +kernel, by decide +kernel⟩, rfl, by decide +kernel, fun _ _ _ _ _ _ us hl => match us, hl with | [_], _ => rfl⟩
theorem w22 : DefW P pd22 dd22 := ⟨rfl, rfl, ⟨rfl, rfl, rfl, by decide +kernel, rfl, by decide +kernel, by decide +kernel⟩, rfl, by decide +kernel, fun _ _ _ _ _ _ us hl => match us, hl with | [_], _ => rfl⟩
theorem w23 : DefW P pd23 dd23 := ⟨rfl, rfl, ⟨rfl, rfl, rfl, by decide +kernel, rfl, by decide +kernel, by decide +kernel⟩, rfl, by decide +kernel, fun _ _ _ _ _ _ us hl => match us, hl with | [_], _ => rfl⟩
theorem w24 : DefW P pd24 dd24 := ⟨rfl, rfl, ⟨rfl, rfl, rfl, by decide +kernel, rfl, by decide +kernel, by decide +kernel⟩, rfl, by decide +kernel, fun _ _ _ _ _ _ us hl => match us, hl with | [_, _, _], _ => rfl⟩
theorem w25 : DefW P pd25 dd25 := ⟨rfl, rfl, ⟨rfl, rfl, rfl, by decide +kernel, rfl, by decide +kernel, by decide +kernel⟩, rfl, by decide +kernel, fun _ _ _ _ _ _ us hl => match us, hl with | [_, _, _], _ => rfl⟩
theorem w26 : DefW P pd26 dd26 := ⟨rfl, rfl, ⟨rfl, rfl, rfl, by decide +kernel, rfl, by decide +kernel, by decide +kernel⟩, rfl, by decide +kernel, fun _ _ _ _ _ _ us hl => match us, hl with | [_], _ => rfl⟩
theorem w27 : DefW P pd27 dd27 := ⟨rfl, rfl, ⟨rfl, rfl, rfl, by decide +kernel, rfl, by decide +kernel, by decide +kernel⟩, rfl, by decide +kernel, fun _ _ _ _ _ _ us hl => match us, hl with | [_], _ => rfl⟩
theorem w28 : DefW P pd28 dd28 := ⟨rfl, rfl, ⟨rfl, rfl, rfl, by decide +kernel, rfl, by decide +kernel, by decide +kernel⟩, rfl, by decide +kernel, fun _ _ _ _ _ _ us hl => match us, hl with | [_], _ => rfl⟩
theorem w29 : DefW P pd29 dd29 := ⟨rfl, rfl, ⟨rfl, rfl, rfl, by decide +kernel, rfl, by decide +kernel, by decide +kernel⟩, rfl, by decide +kernel, fun _ _ _ _ _ _ us hl => match us, hl with | [_], _ => rfl⟩
theorem w30 : DefW P pd30 dd30 := ⟨rfl, rfl, ⟨rfl, rfl, rfl, by decide +kernel, rfl, by decide +kernel, by decide +kernel⟩, rfl, by decide +kernel, fun _ _ _ _ _ _ us hl => match us, hl with | [_, _, _, _], _ => rfl⟩
theorem w31 : DefW P pd31 dd31 := ⟨rfl, rfl, ⟨rfl, rfl, rfl, by decide +kernel, rfl, by decide +kernel, by decide +kernel⟩, rfl, by decide +kernel, fun _ _ _ _ _ _ us hl => match us, hl with | [_], _ => rfl⟩
theorem w32 : DefW P pd32 dd32 := ⟨rfl, rfl, ⟨rfl, rfl, rfl, by decide +kernel, rfl, by decide +kernel, by decide +kernel⟩, rfl, by decide +kernel, fun _ _ _ _ _ _ us hl => match us, hl with | [_], _ => rfl⟩
theorem w33 : DefW P pd33 dd33 := ⟨rfl, rfl, ⟨rfl, rfl, rfl, by decide +kernel, rfl, by decide +kernel, by decide +kernel⟩, rfl, by decide +kernel, fun _ _ _ _ _ _ us hl => match us, hl with | [_], _ => rfl⟩
theorem w34 : DefW P pd34 dd34 := ⟨rfl, rfl, ⟨rfl, rfl, rfl, by decide +kernel, rfl, by decide +kernel, by decide +kernel⟩, rfl, by decide +kernel, fun _ _ _ _ _ _ us hl => match us, hl with | [_], _ => rfl⟩
theorem w35 : DefW P pd35 dd35 := ⟨rfl, rfl, ⟨rfl, rfl, rfl, by decide +kernel, rfl, by decide +kernel, by decide +kernel⟩, rfl, by decide +kernel, fun _ _ _ _ _ _ us hl => match us, hl with | [_, _], _ => rfl⟩
theorem w36 : DefW P pd36 dd36 := ⟨rfl, rfl, ⟨rfl, rfl, rfl, by decide +kernel, rfl, by decide +kernel, by decide +kernel⟩, rfl, by decide +kernel, fun _ _ _ _ _ _ us hl => match us, hl with | [_, _], _ => rfl⟩
theorem w37 : DefW P pd37 dd37 := ⟨rfl, rfl, ⟨rfl, rfl, rfl, by decide +kernel, rfl, by decide +kernel, by decide +kernel⟩, rfl, by decide +kernel, fun _ _ _ _ _ _ us hl => match us, hl with | [_, _, _], _ => rfl⟩
theorem w38 : DefW P pd38 dd38 := ⟨rfl, rfl, ⟨rfl, rfl, rfl, by decide +kernel, rfl, by decide +kernel, by decide +kernel⟩, rfl, by decide +kernel, fun _ _ _ _ _ _ us hl => match us, hl with | [_, _], _ => rfl⟩
theorem w39 : DefW P pd39 dd39 := ⟨rfl, rfl, ⟨rfl, rfl, rfl, by decide +kernel, rfl, by decide +kernel, by decide +kernel⟩, rfl, by decide +kernel, fun _ _ _ _ _ _ us hl => match us, hl with | [_, _], _ => rfl⟩
theorem w40 : DefW P pd40 dd40 := ⟨rfl, rfl, ⟨rfl, rfl, rfl, by decide +kernel, rfl, by decide +kernel, by decide +kernel⟩, rfl, by decide +kernel, fun _ _ _ _ _ _ us hl => match us, hl with | [_], _ => rfl⟩
theorem w41 : DefW P pd41 dd41 := ⟨rfl, rfl, ⟨rfl, rfl, rfl, by decide +kernel, rfl, by decide +kernel, by decide +kernel⟩, rfl, by decide +kernel, fun _ _ _ _ _ _ us hl => match us, hl with | [_, _], _ => rfl⟩
theorem w42 : DefW P pd42 dd42 := ⟨rfl, rfl, ⟨rfl, rfl, rfl, by decide +kernel, rfl, by decide +kernel, by decide +kernel⟩, rfl, by decide +kernel, fun _ _ _ _ _ _ us hl => match us, hl with | [_, _, _], _ => rfl⟩
theorem w43 : DefW P pd43 dd43 := ⟨rfl, rfl, ⟨rfl, rfl, rfl, by decide +kernel, rfl, by decide +kernel, by decide +kernel⟩, rfl, by decide +kernel, fun _ _ _ _ _ _ us hl => match us, hl with | [_], _ => rfl⟩
theorem w44 : DefW P pd44 dd44 := ⟨rfl, rfl, ⟨rfl, rfl, rfl, by decide +kernel, rfl, by decide +kernel, by decide +kernel⟩, rfl, by decide +kernel, fun _ _ _ _ _ _ us hl => match us, hl with | [_], _ => rfl⟩
theorem w45 : DefW P pd45 dd45 := ⟨rfl, rfl, ⟨rfl, rfl, rfl, by decide +kernel, rfl, by decide +kernel, by decide +kernel⟩, rfl, by decide +kernel, fun _ _ _ _ _ _ us hl => match us, hl with | [_], _ => rfl⟩
theorem w46 : DefW P pd46 dd46 := ⟨rfl, rfl, ⟨rfl, rfl, rfl, by decide +kernel, rfl, by decide +kernel, by decide +kernel⟩, rfl, by decide +kernel, fun _ _ _ _ _ _ us hl => match us, hl with | [_], _ => rfl⟩
theorem w47 : DefW P pd47 dd47 := ⟨rfl, rfl, ⟨rfl, rfl, rfl, by decide +kernel, rfl, by decide +kernel, by decide +kernel⟩, rfl, by decide +kernel, fun _ _ _ _ _ _ us hl => match us, hl with | [_, _, _], _ => rfl⟩
theorem w48 : DefW P pd48 dd48 := ⟨rfl, rfl, ⟨rfl, rfl, rfl, by decide +kernel, rfl, by decide +kernel, by decide +kernel⟩, rfl, by decide +kernel, fun _ _ _ _ _ _ us hl => match us, hl with | [_], _ => rfl⟩
theorem w49 : DefW P pd49 dd49 := ⟨rfl, rfl, ⟨rfl, rfl, rfl, by decide +kernel, rfl, by decide +kernel, by decide +kernel⟩, rfl, by decide +kernel, fun _ _ _ _ _ _ us hl => match us, hl with | [_, _], _ => rfl⟩
theorem w50 : DefW P pd50 dd50 := ⟨rfl, rfl, ⟨rfl, rfl, rfl, by decide +kernel, rfl, by decide +kernel, by decide +kernel⟩, rfl, by decide +kernel, fun _ _ _ _ _ _ us hl => match us, hl with | [_, _, _], _ => rfl⟩
theorem w51 : DefW P pd51 dd51 := ⟨rfl, rfl, ⟨rfl, rfl, rfl, by decide +kernel, rfl, by decide +kernel, by decide +kernel⟩, rfl, by decide +kernel, fun _ _ _ _ _ _ us hl => match us, hl with | [_], _ => rfl⟩
theorem w52 : DefW P pd52 dd52 := ⟨rfl, rfl, ⟨rfl, rfl, rfl, by decide +kernel, rfl, by decide +kernel, by decide +kernel⟩, rfl, by decide +kernel, fun _ _ _ _ _ _ us hl => match us, hl with | [_], _ => rfl⟩
theorem w53 : DefW P pd53 dd53 := ⟨rfl, rfl, ⟨rfl, rfl, rfl, by decide +kernel, rfl, by decide +kernel, by decide +kernel⟩, rfl, by decide +kernel, fun _ _ _ _ _ _ us hl => match us, hl with | [_, _, _], _ => rfl⟩
theorem w54 : DefW P pd54 dd54 := ⟨rfl, rfl, ⟨rfl, rfl, rfl, by decide +kernel, rfl, by decide +kernel, by decide +kernel⟩, rfl, by decide +kernel, fun _ _ _ _ _ _ us hl => match us, hl with | [_, _, _], _ => rfl⟩
theorem w55 : DefW P pd55 dd55 := ⟨rfl, rfl, ⟨rfl, rfl, rfl, by decide +kernel, rfl, by decide +kernel, by decide +kernel⟩, rfl, by decide +kernel, fun _ _ _ _ _ _ us hl => match us, hl with | [_], _ => rfl⟩
theorem allW : AllW P P.defs fnW := .cons w0 (.cons w1 (.cons w2 (.cons w3 (.cons w4 (.cons w5 (.cons w6 (.cons w7 (.cons w8 (.cons w9 (.cons w10 (.cons w11 (.cons w12 (.cons w13 (.cons w14 (.cons w15 (.cons w16 (.cons w17 (.cons w18 (.cons w19 (.cons w20 (.cons w21 (.cons w22 (.cons w23 (.cons w24 (.cons w25 (.cons w26 (.cons w27 (.cons w28 (.cons w29 (.cons w30 (.cons w31 (.cons w32 (.cons w33 (.cons w34 (.cons w35 (.cons w36 (.cons w37 (.cons w38 (.cons w39 (.cons w40 (.cons w41 (.cons w42 (.cons w43 (.cons w44 (.cons w45 (.cons w46 (.cons w47 (.cons w48 (.cons w49 (.cons w50 (.cons w51 (.cons w52 (.cons w53 (.cons w54 (.cons w55 (.nil))))))))))))))))))))))))))))))))))))))))))))))))))))))))
theorem xw1 : ExW pc1 "value" xd1 := ⟨rfl, rfl, "value", _, _, _, _, rfl, ⟨rfl, rfl, rfl, by decide +kernel, rfl, by decide +kernel, by decide +kernel⟩, rfl, rfl, rfl, fun _ _ _ _ _ _ us hl => match us, hl with | [_, _], _ => rfl⟩
theorem xw2 : ExW pc2 "point" xd2 := ⟨rfl, rfl, "point", _, _, _, _, rfl, ⟨rfl, rfl, rfl, by decide +kernel, rfl, by decide +kernel, by decide +kernel⟩, rfl, rfl, rfl, fun _ _ _ _ _ _ us hl => match us, hl with | [_, _], _ => rfl⟩
theorem xw3 : ExW pc3 "corner" xd3 := ⟨rfl, rfl, "corner", _, _, _, _, rfl, ⟨rfl, rfl, rfl, by decide +kernel, rfl, by decide +kernel, by decide +kernel⟩, rfl, rfl, rfl, fun _ _ _ _ _ _ us hl => match us, hl with | [_, _], _ => rfl⟩
theorem xw4 : ExW pc4 "direction" xd4 := ⟨rfl, rfl, "direction", _, _, _, _, rfl, ⟨rfl, rfl, rfl, by decide +kernel, rfl, by decide +kernel, by decide +kernel⟩, rfl, rfl, rfl, fun _ _ _ _ _ _ us hl => match us, hl with | [_, _], _ => rfl⟩
def loose0 : List Str := ["_wall", "FloorError", "BadNumber", "BadPoint", "BadCorner", "BadDirection", "is_integer", "common", "whole_root", "Root", "is_number", "as_root", "is_point", "check_point", "as_roots", "taken", "square", "is_corner", "check_corner", "is_direction"]
def loose1 : List Str := ["check_direction", "gone", "stepped", "place_of", "star_of", "place", "star", "from_parts", "parts_of", "corner_at", "corner_with", "_law_start", "_law_mixed", "_law_draw", "_law_between", "_law_plus", "_law_common", "_law_lowest", "_law_is_root", "_law_is_point"]
def loose2 : List Str := ["_law_place", "_law_star", "_law_corner", "_law_given", "_law_step", "_law_is_corner", "_law_bad_corner", "_law_refused", "_law_no_point", "_law_whole_parts", "_law_corner_of", "_law_led_back"]
def loose : List Str := loose0 ++ loose1 ++ loose2
abbrev R : PySem.W.OpenRow := PySem.W.OpenLaw.row PySem.Challenge.rw_threetiles_k04_places_and_stars
def exK (K : PySem.W.Frag) : Bool := statB P K && callB P K
abbrev hk : PySem.W.Hook := Tk.hookB 4 (fnW ++ fnX) exK
def ob (s : PySem.W.SharedT) : He.AlX := Tk.obsB 4 (fnW ++ fnX) exK (HandSHeadRun.getT s)
theorem ob_eq (s : PySem.W.SharedT) : ob s = hk.obs s.abs := Tk.obsB_eq (HandSHeadRun.getT_eq s)
abbrev Kf (s : PySem.W.SharedT) : PySem.W.Frag := He.frT (HandSHeadRun.getT s) (Tk.asB (HandSHeadRun.getT s) 4)
open PySem PySem.W PySem.Calls PyProof.Rows HandSHeadRun in
theorem run1 (w : World) (os : OsState) : (HandSHeadRun.endF (HandSHeadRun.stepQ (HandSHeadRun.denQ HandSHeadRun.tabQ) R.prog w) 8000 R.prog w os).map (fun s => (looksF R.prog (boot_heap w.params) s.abs, seenQ (view R.prog [57]) loose (importedModules R.prog.main.body) (fun s => xlAt (view R.prog [57]) [] s && recOk R.toRowW.records s) s.abs)) = some (true, openGood (view R.prog [57]) loose) := by
  kernel_rfl
open PySem PySem.W PySem.Calls PyProof.Rows HandSHeadRun in
theorem run2 (w : World) (os : OsState) : (HandSHeadRun.endF (HandSHeadRun.stepQ (HandSHeadRun.denQ HandSHeadRun.tabQ) R.prog w) 8000 R.prog w os).map (fun s => exK (Kf s)) = some true := by
  kernel_rfl
open PySem PySem.W PySem.Calls PyProof.Rows HandSHeadRun in
theorem run3a (w : World) (os : OsState) : (HandSHeadRun.endF (HandSHeadRun.stepQ (HandSHeadRun.denQ HandSHeadRun.tabQ) R.prog w) 8000 R.prog w os).map (fun s => ((fnW ++ fnX).take 28).all fun d => d.ok (Kf s)) = some true := by
  kernel_rfl
open PySem PySem.W PySem.Calls PyProof.Rows HandSHeadRun in
theorem run3b (w : World) (os : OsState) : (HandSHeadRun.endF (HandSHeadRun.stepQ (HandSHeadRun.denQ HandSHeadRun.tabQ) R.prog w) 8000 R.prog w os).map (fun s => ((fnW ++ fnX).drop 28).all fun d => d.ok (Kf s)) = some true := by
  kernel_rfl
open PySem PySem.W PySem.Calls PyProof.Rows HandSHeadRun in
theorem run4a (w : World) (os : OsState) : (HandSHeadRun.endF (HandSHeadRun.stepQ (HandSHeadRun.denQ HandSHeadRun.tabQ) R.prog w) 8000 R.prog w os).map (fun s => ((fnW ++ fnX).take 28).map fun d => He.fnW (Kf s) d.at_) = some (((fnW ++ fnX).take 28).map He.DefD.val) := by
  kernel_rfl
open PySem PySem.W PySem.Calls PyProof.Rows HandSHeadRun in
theorem run4b (w : World) (os : OsState) : (HandSHeadRun.endF (HandSHeadRun.stepQ (HandSHeadRun.denQ HandSHeadRun.tabQ) R.prog w) 8000 R.prog w os).map (fun s => ((fnW ++ fnX).drop 28).map fun d => He.fnW (Kf s) d.at_) = some (((fnW ++ fnX).drop 28).map He.DefD.val) := by
  kernel_rfl
theorem run (w : World) : HandSHeadRun.RunEq R (PySem.W.view R.prog [57]) hk ob 8000 loose w := fun os => Tk.run_comb6 28 (run1 w os) (run2 w os) (run3a w os) (run3b w os) (run4a w os) (run4b w os)
theorem exs : ∀ (k : Nat) (c : ClsT) (f : Str), P.clss[k]? = some c → c.exc = true → c.fields = [f] → ∃ dd ∈ fnW ++ fnX, ExW c f dd := by
  intro k c f hk he hf
  match k, hk with
  | 0, hk => cases hk; first | (cases he; done) | (cases hf; done)
  | 1, hk => cases hk; cases hf; exact ⟨xd1, List.mem_append_right _ (List.mem_of_getElem? (i := 0) rfl), xw1⟩
  | 2, hk => cases hk; cases hf; exact ⟨xd2, List.mem_append_right _ (List.mem_of_getElem? (i := 1) rfl), xw2⟩
  | 3, hk => cases hk; cases hf; exact ⟨xd3, List.mem_append_right _ (List.mem_of_getElem? (i := 2) rfl), xw3⟩
  | 4, hk => cases hk; cases hf; exact ⟨xd4, List.mem_append_right _ (List.mem_of_getElem? (i := 3) rfl), xw4⟩
  | 5, hk => cases hk; first | (cases he; done) | (cases hf; done)
  | k + 6, hk => simp [P] at hk
end Pg
namespace Pg
open Tk
local macro_rules | `(tactic| simpa?! [$as,*]) => `(tactic| simp (config := { decide := true, implicitDefEqProofs := false }) only [still_non, fz_non, finD_non, still_bl, fz_bl, finD_bl, still_int, fz_int, finD_int, still_str, fz_str, finD_str, still_tup, fz_tup, finD_tup, still_lst, fz_lst, finD_lst, still_obj, fz_obj, finD_obj, still_dic0, fz_dic0, finD_dic0, still_loc, fz_loc, finD_loc, still_new, u_fz_new, finD_new, finD_own, fz_own, still_own, still_exn, nol_non, nol_bl, nol_int, nol_str, nol_dic0, nol_obj, nol_tup, nol_lst, nols_nil, nols_cons, truth_non, truth_bl, truth_int, truth_tup, seqOf_tup, itOf_tup, truth_lst, seqOf_lst, itOf_lst, isL_lst, truth_new, seqOf_new, itOf_new, isL_new, truth_own, seqOf_own, itOf_own, isL_own, itList_fix, isOw_own, isOw_non, isOw_bl, isOw_int, isOw_str, isOw_tup, isOw_obj, isOw_dic0, isOw_loc, isOw_exn, isOw_new, isOw_lst, isOw_scr, itW_t, itW_f, itList_ow, varD_val, varD_own, bind_ok, bind_err, b_ok, b_err, o_next, o_ret, o_brk, o_cont, o_err, noErr_o, fzs_of, binD_int, binI_add, binI_sub, binI_mul, binI_mod, binI_fdiv, binI_pow, kTup_of, kLst_of, kCall_of, kMake_of, mkD_ok, mkD_err, kAnd_tt, kAnd_tf, kAnd_ft, kAnd_ff, kIte_t, kIte_f, kNot_bl, sIte_t, sIte_f, sIte_ot, sIte_of, kNeg_int, kIsi_eq, kIsi_eqX, isiR_some, cmp_lt, cmp_le, cmp_gt, cmp_ge, cmp_eq_int, cmp_ne_int, cmp_eq_bl, cmp_ne_bl, bt_abs, bt_int, bt_int_bl, bt_tuple_tup, fin_ret, fin_next, fin_err, sSet_of, sSetO_of, sSetL_of, sPar2_of, sItem3_of, stOw_own, sAppO_of, sItemO2_of, sItemO_eq, retOw_own, ownC_own, stO_some, stL_some, sApp2_of, appD_of, frzD_own, sRaise_of, sFor_fix, forF_nil, forF_cons, forK_next, forK_cont, forK_brk, forK_ret, forK_err, bindT_nm, lcF_nil, lcF_cons, lcAcc_some, lcAcc_none, lcEnd_of, kSeq_loc, dynD_lst, kRng1_of, kSl_def, kSl2_def, List.map_cons, List.map_nil, List.cons_append, List.nil_append, List.length_cons, List.length_nil, List.replicate, List.getElem?_cons_zero, List.getElem?_cons_succ, List.set_cons_zero, List.set_cons_succ, List.length_set, List.all_cons, List.all_nil, Bool.and_true, Bool.and_self, Bool.not_true, Bool.not_false, if_true, if_false, Nat.reduceAdd, Nat.reduceSub, Nat.reduceLT, Nat.reduceEqDiff, decide_true, decide_false, Int.reduceNeg, evE_0, evE_1, evE_2, evE_3, evE_4, evE_5, evE_6, evE_7, evE_8, evE_9, evE_10, evE_11, evE_12, evE_13, evE_14, evE_15, evE_16, evE_17, evE_18, evE_19, evE_20, evE_21, evE_22, evE_23, evE_24, evE_25, evE_26, evEs_0, evEs_1, evAnd_0, evAnd_1, evAnd_2, evI_0, evI_1, evI_2, evI_3, evI_4, evI_5, kRev_lst, kRev_new, kEnum_tup, kEnum_lst, kEnum_new, enumD4, evS_0, evS_1, evS_2, evS_3, evS_4, evS_5, evS_6, evS_7, evS_8, evS_9, evS_10, evS_11, evS_12, evS_13, evS_14, evS_15, evS_16, evS_17, evS_18, evS_19, hasX_nil, hasX_emp, hasX_val, hasX_own, nxC_of, clrE_none, clrE_some, clr_next, clr_brk, clr_cont, clr_ret, hdlE_none, hdlE_some, varD_exc, evS_20, evS_21, evS_22, evB_0, evB_1, evB_2, kBin_eq, kCmp_eq, kChain_eq, kChainB_eq, kCons_eq, kCons2_eq, kIx_eq, kMeth_eq, kMeth1_eq, sPar_eq, sAttr_eq, sItem_eq, sItem2_eq, sApp_loc, sAppC_lst, sExpr_eq, sRet_of, forStep_eq, lcStep_eq, kRng2_eq, kZip_eq, forB_some, lcIn_some, lcTest_t, lcTest_f, wipeE_nil, wipeE_cons, setAll_nil, setAll_cons, bindT_tp, bindT_tpn, bindT_tpl, sSetT_tup, sSetT_new, sSetT_lst, nextO_some, kInt_int, kTest_bl, kChainC_t, kChainC_f, CE.isNul, optI_t, optI_f, tstC_t, tstC_f, ne_eq, not_false_eq_true, kSeq_tup, kSeq_lst, kSeq_new, kSeq_scr, kSeq_own, ixD_eq, ixS_some, ixR_some, seqOf_locq, seqC_lst, ln_tup, ln_lst, ln_new, ln_own, ln_scr, ln_loc, lenR_some, bt_listq, listR_some, storD_locq, storC_lst, putD_eq, attr_objq, attr_exnq, attr_locq, attrC_ins, fldR_some, setaD_loc, setaC_ins, setaF_some, kComp_fix, kComp_ow, kMeth2_still, kNot_q, notR_some, sl_scr, sl_lst, sl_new, sl_own, cmp_own_l, cmp_own_r, eqK_some, kNeg_q, negK_some, Option.isSome_some, eq_self, beq_self_eq_true,  cmp_eq_str, cmpOk_obj, isi_obj_ty, isi_obj_own, isi_exn_own, isi_exn_ve, L2.atI, L2.ixN, Option.bind_some, Option.map_some, Int.reduceToNat, still_scr, fz_scr, binD_oo, binD_oi, binD_io, binL_obj, binL_int, binRt_some, rOk_add, rOk_sub, rOk_mul, whT_t, whT_f, whK_next, whK_cont, whK_brk, whK_ret, cmp_isn_non, cmp_isb, cmp_isnb, kBl_bl, sAttr2_of, nextS_some, sTry_next, sTry_ret, u_sTry_err, hasX_exc, isX_f1, seqOf_scr, cmp_eq_dic, isi_non_int, isi_non_bool, isi_non_str, isi_non_tuple, isi_non_list, isi_non_dict, isi_non_own, cmpOk_non, eqOf_non, isi_bl_int, isi_bl_bool, isi_bl_str, isi_bl_tuple, isi_bl_list, isi_bl_dict, isi_bl_own, cmpOk_bl, eqOf_bl, isi_int_int, isi_int_bool, isi_int_str, isi_int_tuple, isi_int_list, isi_int_dict, isi_int_own, cmpOk_int, eqOf_int, isi_str_int, isi_str_bool, isi_str_str, isi_str_tuple, isi_str_list, isi_str_dict, isi_str_own, cmpOk_str, eqOf_str, isi_tup_int, isi_tup_bool, isi_tup_str, isi_tup_tuple, isi_tup_list, isi_tup_dict, isi_tup_own, cmpOk_tup, eqOf_tup, isi_lst_int, isi_lst_bool, isi_lst_str, isi_lst_tuple, isi_lst_list, isi_lst_dict, isi_lst_own, cmpOk_lst, eqOf_lst, isi_new_int, isi_new_bool, isi_new_str, isi_new_tuple, isi_new_list, isi_new_dict, isi_new_own, cmpOk_new, eqOf_new, isi_loc_int, isi_loc_bool, isi_loc_str, isi_loc_tuple, isi_loc_list, isi_loc_dict, isi_loc_own, isi_dic_int, isi_dic_bool, isi_dic_str, isi_dic_tuple, isi_dic_list, isi_dic_dict, isi_dic_own, cmpOk_dic, eqOf_dic, leftOk_int, leftOk_bl, p_exc0, p_nf0, p_exc1, p_nf1, p_f1_6, p_exc2, p_nf2, p_f2_5, p_exc3, p_nf3, p_f3_3, p_exc4, p_nf4, p_f4_4, p_cls5, p_nf5, p_f5_0, p_f5_1, p_f5_2, p_eq5, p_op5_add, p_op5_sub, p_op5_mul, p_neg5, p_sub0_0, p_in0_0, p_sub0_1, p_in0_1, p_sub0_2, p_in0_2, p_sub0_3, p_in0_3, p_sub0_4, p_in0_4, p_sub1_0, p_in1_0, p_sub1_1, p_in1_1, p_sub1_2, p_in1_2, p_sub1_3, p_in1_3, p_sub1_4, p_in1_4, p_sub2_0, p_in2_0, p_sub2_1, p_in2_1, p_sub2_2, p_in2_2, p_sub2_3, p_in2_3, p_sub2_4, p_in2_4, p_sub3_0, p_in3_0, p_sub3_1, p_in3_1, p_sub3_2, p_in3_2, p_sub3_3, p_in3_3, p_sub3_4, p_in3_4, p_sub4_0, p_in4_0, p_sub4_1, p_in4_1, p_sub4_2, p_in4_2, p_sub4_3, p_in4_3, p_sub4_4, p_in4_4, $as,*])
theorem c_int (n : Nat) (a : Int) (S : Sto) : Tk.call P (n+1) 0 [.int a] S = .ok (.bl true) S := by
  simpa?! [r0, b0]
theorem c_intB (n : Nat) (a : Bool) (S : Sto) : Tk.call P (n+1) 0 [.bl a] S = .ok (.bl false) S := by
  simpa?! [r0, b0]
theorem c_intS (n : Nat) (a : PySem.Str) (S : Sto) : Tk.call P (n+1) 0 [.str a] S = .ok (.bl false) S := by
  simpa?! [r0, b0]
theorem c_intN (n : Nat) (S : Sto) : Tk.call P (n+1) 0 [.non] S = .ok (.bl false) S := by
  simpa?! [r0, b0]
theorem c_intT (n : Nat) (a : List D) (S : Sto) : Tk.call P (n+1) 0 [.tup a] S = .ok (.bl false) S := by
  simpa?! [r0, b0]
theorem c_intL (n : Nat) (a : List D) (S : Sto) : Tk.call P (n+1) 0 [.lst a] S = .ok (.bl false) S := by
  simpa?! [r0, b0]
theorem c_intD (n : Nat) (S : Sto) : Tk.call P (n+1) 0 [.dic0] S = .ok (.bl false) S := by
  simpa?! [r0, b0]
/-! ### the greatest common divisor -/
theorem fmod_nat (a b : Nat) : ((a : Int).fmod (b : Int)) = ((a % b : Nat) : Int) := by
  rw [Int.fmod_eq_emod_of_nonneg _ (Int.natCast_nonneg b)]; rfl
theorem abs_nat (a : Int) : (if a < 0 then -a else a) = ((a.natAbs : Nat) : Int) := by
  split <;> omega
theorem com_wh (cl : Cl) (S : Sto) : ∀ (m a b : Nat) (s : Slot), b < m → ∃ s', wh (tstC false (evE P cl (CE.cmp .gt (.var 1) (.int 0)))) (evB P cl (.cons (.set 2 (.bin .mod (.blt .int (.cons (.var 0) .nil)) (.var 1))) (.cons (.set 0 (.var 1)) (.cons (.set 1 (.var 2)) .nil)))) m [.val (.int a), .val (.int b), s] S
    = .next [.val (.int (Nat.gcd a b : Nat)), .val (.int 0), s'] S := by
  intro m
  induction m with
  | zero => intro a b s h; omega
  | succ m ih =>
    intro a b s h
    by_cases hb : b = 0
    · subst hb
      refine ⟨s, ?_⟩
      simpa?! [wh_succ]
      simp
    · obtain ⟨s', e⟩ := ih b (a % b) (.val (.int ((a % b : Nat) : Int))) (Nat.lt_of_lt_of_le (Nat.mod_lt _ (Nat.pos_of_ne_zero hb)) (by omega))
      refine ⟨s', ?_⟩
      have h1 : (0 : Int) < (b : Int) := by omega
      have h2 : (b : Int) ≠ 0 := by omega
      have e2 : Nat.gcd a b = Nat.gcd b (a % b) := by rw [Nat.gcd_comm a b, Nat.gcd_rec b a, Nat.gcd_comm]
      simpa?! [wh_succ, h1, h2, fmod_nat, e]
      rw [e2]
theorem c_com (n : Nat) (a b : Int) (S : Sto) : Tk.call P (n+1) 39 [.int a, .int b] S = .ok (.int (Int.gcd a b : Nat)) S := by
  obtain ⟨s', e⟩ := com_wh (Tk.call P n) S (b.natAbs + 1) a.natAbs b.natAbs .emp (Nat.lt_succ_self _)
  simpa?! [r39, b39, abs_nat, whC_of e (fun z => nomatch z)]
  rfl
/-! ### the program's own -/
theorem com_wh' (cl : Cl) (S : Sto) : ∀ (m a b : Nat), b < m → wh (tstC false (evE P cl (CE.cmp .gt (.var 1) (.int 0)))) (evB P cl (.cons (.par 0 1 (.var 1) (.bin .mod (.var 0) (.var 1))) .nil)) m [.val (.int a), .val (.int b)] S
    = .next [.val (.int (Nat.gcd a b : Nat)), .val (.int 0)] S := by
  intro m
  induction m with
  | zero => intro a b h; omega
  | succ m ih =>
    intro a b h
    by_cases hb : b = 0
    · subst hb
      simpa?! [wh_succ]
      simp
    · have e := ih b (a % b) (Nat.lt_of_lt_of_le (Nat.mod_lt _ (Nat.pos_of_ne_zero hb)) (by omega))
      have h1 : (0 : Int) < (b : Int) := by omega
      have h2 : (b : Int) ≠ 0 := by omega
      have e2 : Nat.gcd a b = Nat.gcd b (a % b) := by rw [Nat.gcd_comm a b, Nat.gcd_rec b a, Nat.gcd_comm]
      simpa?! [wh_succ, h1, h2, fmod_nat, e]
      rw [e2]
theorem c_gcd (n : Nat) (a b : Int) (S : Sto) : Tk.call P (n+1) 1 [.int a, .int b] S = .ok (.int (Int.gcd a b : Nat)) S := by
  have e := com_wh' (Tk.call P n) S (b.natAbs + 1) a.natAbs b.natAbs (Nat.lt_succ_self _)
  simpa?! [r1, b1, abs_nat, whC_of e (fun z => nomatch z)]
  rfl
/-- the divisor of a told number -/
def gg (a b c : Int) : Int := ((Int.gcd (Int.gcd a b : Nat) c : Nat) : Int)
def pp (a b c : Int) : Int := if c < 0 then -gg a b c else gg a b c
def rt (a b c : Int) : D := .obj 5 [.int (a.fdiv (pp a b c)), .int (b.fdiv (pp a b c)), .int (c.fdiv (pp a b c))]
theorem gg_ne {a b c : Int} (hc : c ≠ 0) : ((Int.gcd (Int.gcd a b : Nat) c : Nat) : Int) ≠ 0 := by
  intro h
  have h : Int.gcd (Int.gcd a b : Nat) c = 0 := by omega
  exact hc (Int.gcd_eq_zero_iff.mp h).2
theorem gg_bnd {a b c : Int} {m : Nat} [h : Bnd c m] (hc : c ≠ 0) : Bnd ((Int.gcd (Int.gcd a b : Nat) c : Nat) : Int) m := ⟨by
  rw [Int.natAbs_natCast]
  exact Nat.lt_of_le_of_lt (Nat.gcd_le_right _ (Int.natAbs_pos.mpr hc)) h.h⟩
theorem c_init (n : Nat) (a b c : Int) {m : Nat} [Bnd c m] (hm : m < 8000) (hc : c ≠ 0) : Tk.call P (n+2) 3 [.loc 0, .int a, .int b, .int c] [.ins 5 []] = .ok .non [.ins 5 [.int (a.fdiv (pp a b c)), .int (b.fdiv (pp a b c)), .int (c.fdiv (pp a b c))]] := by
  have h0 := gg_ne (a := a) (b := b) hc
  have hb : Bnd ((Int.gcd (Int.gcd a b : Nat) c : Nat) : Int) m := gg_bnd hc
  have h9 : m < 9000 := by omega
  by_cases h : c < 0
  · have h1 : -((Int.gcd (Int.gcd a b : Nat) c : Nat) : Int) ≠ 0 := by omega
    simpa?! [r3, b3, c_int, c_gcd, hc, h, h0, h1, h9, pp, gg]
  · simpa?! [r3, b3, c_int, c_gcd, hc, h, h0, h9, pp, gg]
theorem c_low (n : Nat) (a b c : Int) {m : Nat} [Bnd c m] (hm : m < 8000) (hc : c ≠ 0) (S : Sto) : Tk.call P (n+2) 40 [.tup [.int a, .int b, .int c]] S = .ok (.tup [.int (a.fdiv (pp a b c)), .int (b.fdiv (pp a b c)), .int (c.fdiv (pp a b c))]) S := by
  have h0 := gg_ne (a := a) (b := b) hc
  have hb : Bnd ((Int.gcd (Int.gcd a b : Nat) c : Nat) : Int) m := gg_bnd hc
  have h9 : m < 9000 := by omega
  by_cases h : c < 0
  · have h1 : -((Int.gcd (Int.gcd a b : Nat) c : Nat) : Int) ≠ 0 := by omega
    simpa?! [r40, b40, c_com, hc, h, h0, h1, h9, pp, gg]
  · simpa?! [r40, b40, c_com, hc, h, h0, h9, pp, gg]
theorem c_lowL (n : Nat) (a b c : Int) {m : Nat} [Bnd c m] (hm : m < 8000) (hc : c ≠ 0) (S : Sto) : Tk.call P (n+2) 40 [.lst [.int a, .int b, .int c]] S = .ok (.tup [.int (a.fdiv (pp a b c)), .int (b.fdiv (pp a b c)), .int (c.fdiv (pp a b c))]) S := by
  have h0 := gg_ne (a := a) (b := b) hc
  have hb : Bnd ((Int.gcd (Int.gcd a b : Nat) c : Nat) : Int) m := gg_bnd hc
  have h9 : m < 9000 := by omega
  by_cases h : c < 0
  · have h1 : -((Int.gcd (Int.gcd a b : Nat) c : Nat) : Int) ≠ 0 := by omega
    simpa?! [r40, b40, c_com, hc, h, h0, h1, h9, pp, gg]
  · simpa?! [r40, b40, c_com, hc, h, h0, h9, pp, gg]
theorem eq_t3 (cl : Cl) (a b c d e f : Int) (S : Sto) : cmpD P cl .eq (.tup [.int a, .int b, .int c]) (.tup [.int d, .int e, .int f]) S = .ok (.bl (a == d && (b == e && (c == f && true)))) S := rfl
theorem c_isr (n : Nat) (t r u a b c : Int) {m : Nat} [Bnd c m] (hm : m < 8000) (hc : c ≠ 0) (S : Sto) : Tk.call P (n+3) 41 [.obj 5 [.int t, .int r, .int u], .tup [.int a, .int b, .int c]] S =
    .ok (.bl (t == a.fdiv (pp a b c) && (r == b.fdiv (pp a b c) && (u == c.fdiv (pp a b c) && true)))) S := by
  simpa?! [r41, b41, c_low, hc, hm, eq_t3]
theorem c_isrL (n : Nat) (t r u a b c : Int) {m : Nat} [Bnd c m] (hm : m < 8000) (hc : c ≠ 0) (S : Sto) : Tk.call P (n+3) 41 [.obj 5 [.int t, .int r, .int u], .lst [.int a, .int b, .int c]] S =
    .ok (.bl (t == a.fdiv (pp a b c) && (r == b.fdiv (pp a b c) && (u == c.fdiv (pp a b c) && true)))) S := by
  simpa?! [r41, b41, c_lowL, hc, hm, eq_t3]
/-! ### == -/
theorem c_eqR (n : Nat) (t r u a b c : Int) (S : Sto) : Tk.call P (n+2) 4 [.obj 5 [.int t, .int r, .int u], .obj 5 [.int a, .int b, .int c]] S = .ok (.bl (decide (t = a) && (decide (r = b) && decide (u = c)))) S := by
  by_cases h1 : t = a
  · by_cases h2 : r = b
    · simpa?! [r4, b4, h1, h2, Bool.true_and]
    · simpa?! [r4, b4, h1, h2, Bool.false_and, Bool.and_false]
  · simpa?! [r4, b4, h1, Bool.false_and, Bool.and_false]
theorem c_eqI (n : Nat) (t r u a : Int) (S : Sto) : Tk.call P (n+2) 4 [.obj 5 [.int t, .int r, .int u], .int a] S = .ok (.bl (decide (r = 0) && (decide (u = 1) && decide (t = a)))) S := by
  by_cases h1 : r = 0
  · by_cases h2 : u = 1
    · simpa?! [r4, b4, c_int, h1, h2, Bool.true_and]
    · simpa?! [r4, b4, c_int, h1, h2, Bool.false_and, Bool.and_false]
  · simpa?! [r4, b4, c_int, h1, Bool.false_and, Bool.and_false]
theorem c_eqB (n : Nat) (t r u : Int) (a : Bool) (S : Sto) : Tk.call P (n+2) 4 [.obj 5 [.int t, .int r, .int u], .bl a] S = .ok (.bl false) S := by
  simpa?! [r4, b4, c_intB]
theorem c_eqS (n : Nat) (t r u : Int) (a : PySem.Str) (S : Sto) : Tk.call P (n+2) 4 [.obj 5 [.int t, .int r, .int u], .str a] S = .ok (.bl false) S := by
  simpa?! [r4, b4, c_intS]
theorem c_eqN (n : Nat) (t r u : Int) (S : Sto) : Tk.call P (n+2) 4 [.obj 5 [.int t, .int r, .int u], .non] S = .ok (.bl false) S := by
  simpa?! [r4, b4, c_intN]
theorem c_eqT (n : Nat) (t r u : Int) (xs : List D) (S : Sto) : Tk.call P (n+2) 4 [.obj 5 [.int t, .int r, .int u], .tup xs] S = .ok (.bl false) S := by
  simpa?! [r4, b4, c_intT]
end Pg
set_option exponentiation.threshold 300
namespace Pg
open Tk
local macro_rules | `(tactic| simpa?! [$as,*]) => `(tactic| simp (config := { decide := true, implicitDefEqProofs := false }) only [still_non, fz_non, finD_non, still_bl, fz_bl, finD_bl, still_int, fz_int, finD_int, still_str, fz_str, finD_str, still_tup, fz_tup, finD_tup, still_lst, fz_lst, finD_lst, still_obj, fz_obj, finD_obj, still_dic0, fz_dic0, finD_dic0, still_loc, fz_loc, finD_loc, still_new, u_fz_new, finD_new, finD_own, fz_own, still_own, still_exn, nol_non, nol_bl, nol_int, nol_str, nol_dic0, nol_obj, nol_tup, nol_lst, nols_nil, nols_cons, truth_non, truth_bl, truth_int, truth_tup, seqOf_tup, itOf_tup, truth_lst, seqOf_lst, itOf_lst, isL_lst, truth_new, seqOf_new, itOf_new, isL_new, truth_own, seqOf_own, itOf_own, isL_own, itList_fix, isOw_own, isOw_non, isOw_bl, isOw_int, isOw_str, isOw_tup, isOw_obj, isOw_dic0, isOw_loc, isOw_exn, isOw_new, isOw_lst, isOw_scr, itW_t, itW_f, itList_ow, varD_val, varD_own, bind_ok, bind_err, b_ok, b_err, o_next, o_ret, o_brk, o_cont, o_err, noErr_o, fzs_of, binD_int, binI_add, binI_sub, binI_mul, binI_mod, binI_fdiv, binI_pow, kTup_of, kLst_of, kCall_of, kMake_of, mkD_ok, mkD_err, kAnd_tt, kAnd_tf, kAnd_ft, kAnd_ff, kIte_t, kIte_f, kNot_bl, sIte_t, sIte_f, sIte_ot, sIte_of, kNeg_int, kIsi_eq, kIsi_eqX, isiR_some, cmp_lt, cmp_le, cmp_gt, cmp_ge, cmp_eq_int, cmp_ne_int, cmp_eq_bl, cmp_ne_bl, bt_abs, bt_int, bt_int_bl, bt_tuple_tup, fin_ret, fin_next, fin_err, sSet_of, sSetO_of, sSetL_of, sPar2_of, sItem3_of, stOw_own, sAppO_of, sItemO2_of, sItemO_eq, retOw_own, ownC_own, stO_some, stL_some, sApp2_of, appD_of, frzD_own, sRaise_of, sFor_fix, forF_nil, forF_cons, forK_next, forK_cont, forK_brk, forK_ret, forK_err, bindT_nm, lcF_nil, lcF_cons, lcAcc_some, lcAcc_none, lcEnd_of, kSeq_loc, dynD_lst, kRng1_of, kSl_def, kSl2_def, List.map_cons, List.map_nil, List.cons_append, List.nil_append, List.length_cons, List.length_nil, List.replicate, List.getElem?_cons_zero, List.getElem?_cons_succ, List.set_cons_zero, List.set_cons_succ, List.length_set, List.all_cons, List.all_nil, Bool.and_true, Bool.and_self, Bool.not_true, Bool.not_false, if_true, if_false, Nat.reduceAdd, Nat.reduceSub, Nat.reduceLT, Nat.reduceEqDiff, decide_true, decide_false, Int.reduceNeg, evE_0, evE_1, evE_2, evE_3, evE_4, evE_5, evE_6, evE_7, evE_8, evE_9, evE_10, evE_11, evE_12, evE_13, evE_14, evE_15, evE_16, evE_17, evE_18, evE_19, evE_20, evE_21, evE_22, evE_23, evE_24, evE_25, evE_26, evEs_0, evEs_1, evAnd_0, evAnd_1, evAnd_2, evI_0, evI_1, evI_2, evI_3, evI_4, evI_5, kRev_lst, kRev_new, kEnum_tup, kEnum_lst, kEnum_new, enumD4, evS_0, evS_1, evS_2, evS_3, evS_4, evS_5, evS_6, evS_7, evS_8, evS_9, evS_10, evS_11, evS_12, evS_13, evS_14, evS_15, evS_16, evS_17, evS_18, evS_19, hasX_nil, hasX_emp, hasX_val, hasX_own, nxC_of, clrE_none, clrE_some, clr_next, clr_brk, clr_cont, clr_ret, hdlE_none, hdlE_some, varD_exc, evS_20, evS_21, evS_22, evB_0, evB_1, evB_2, kBin_eq, kCmp_eq, kChain_eq, kChainB_eq, kCons_eq, kCons2_eq, kIx_eq, kMeth_eq, kMeth1_eq, sPar_eq, sAttr_eq, sItem_eq, sItem2_eq, sApp_loc, sAppC_lst, sExpr_eq, sRet_of, forStep_eq, lcStep_eq, kRng2_eq, kZip_eq, forB_some, lcIn_some, lcTest_t, lcTest_f, wipeE_nil, wipeE_cons, setAll_nil, setAll_cons, bindT_tp, bindT_tpn, bindT_tpl, sSetT_tup, sSetT_new, sSetT_lst, nextO_some, kInt_int, kTest_bl, kChainC_t, kChainC_f, CE.isNul, optI_t, optI_f, tstC_t, tstC_f, ne_eq, not_false_eq_true, kSeq_tup, kSeq_lst, kSeq_new, kSeq_scr, kSeq_own, ixD_eq, ixS_some, ixR_some, seqOf_locq, seqC_lst, ln_tup, ln_lst, ln_new, ln_own, ln_scr, ln_loc, lenR_some, bt_listq, listR_some, storD_locq, storC_lst, putD_eq, attr_objq, attr_exnq, attr_locq, attrC_ins, fldR_some, setaD_loc, setaC_ins, setaF_some, kComp_fix, kComp_ow, kMeth2_still, kNot_q, notR_some, sl_scr, sl_lst, sl_new, sl_own, cmp_own_l, cmp_own_r, eqK_some, kNeg_q, negK_some, Option.isSome_some, eq_self, beq_self_eq_true,  cmp_eq_str, cmpOk_obj, isi_obj_ty, isi_obj_own, isi_exn_own, isi_exn_ve, L2.atI, L2.ixN, Option.bind_some, Option.map_some, Int.reduceToNat, still_scr, fz_scr, binD_oo, binD_oi, binD_io, binL_obj, binL_int, binRt_some, rOk_add, rOk_sub, rOk_mul, whT_t, whT_f, whK_next, whK_cont, whK_brk, whK_ret, cmp_isn_non, cmp_isb, cmp_isnb, kBl_bl, sAttr2_of, nextS_some, sTry_next, sTry_ret, u_sTry_err, hasX_exc, isX_f1, seqOf_scr, cmp_eq_dic, isi_non_int, isi_non_bool, isi_non_str, isi_non_tuple, isi_non_list, isi_non_dict, isi_non_own, cmpOk_non, eqOf_non, isi_bl_int, isi_bl_bool, isi_bl_str, isi_bl_tuple, isi_bl_list, isi_bl_dict, isi_bl_own, cmpOk_bl, eqOf_bl, isi_int_int, isi_int_bool, isi_int_str, isi_int_tuple, isi_int_list, isi_int_dict, isi_int_own, cmpOk_int, eqOf_int, isi_str_int, isi_str_bool, isi_str_str, isi_str_tuple, isi_str_list, isi_str_dict, isi_str_own, cmpOk_str, eqOf_str, isi_tup_int, isi_tup_bool, isi_tup_str, isi_tup_tuple, isi_tup_list, isi_tup_dict, isi_tup_own, cmpOk_tup, eqOf_tup, isi_lst_int, isi_lst_bool, isi_lst_str, isi_lst_tuple, isi_lst_list, isi_lst_dict, isi_lst_own, cmpOk_lst, eqOf_lst, isi_new_int, isi_new_bool, isi_new_str, isi_new_tuple, isi_new_list, isi_new_dict, isi_new_own, cmpOk_new, eqOf_new, isi_loc_int, isi_loc_bool, isi_loc_str, isi_loc_tuple, isi_loc_list, isi_loc_dict, isi_loc_own, isi_dic_int, isi_dic_bool, isi_dic_str, isi_dic_tuple, isi_dic_list, isi_dic_dict, isi_dic_own, cmpOk_dic, eqOf_dic, leftOk_int, leftOk_bl, p_exc0, p_nf0, p_exc1, p_nf1, p_f1_6, p_exc2, p_nf2, p_f2_5, p_exc3, p_nf3, p_f3_3, p_exc4, p_nf4, p_f4_4, p_cls5, p_nf5, p_f5_0, p_f5_1, p_f5_2, p_eq5, p_op5_add, p_op5_sub, p_op5_mul, p_neg5, p_sub0_0, p_in0_0, p_sub0_1, p_in0_1, p_sub0_2, p_in0_2, p_sub0_3, p_in0_3, p_sub0_4, p_in0_4, p_sub1_0, p_in1_0, p_sub1_1, p_in1_1, p_sub1_2, p_in1_2, p_sub1_3, p_in1_3, p_sub1_4, p_in1_4, p_sub2_0, p_in2_0, p_sub2_1, p_in2_1, p_sub2_2, p_in2_2, p_sub2_3, p_in2_3, p_sub2_4, p_in2_4, p_sub3_0, p_in3_0, p_sub3_1, p_in3_1, p_sub3_2, p_in3_2, p_sub3_3, p_in3_3, p_sub3_4, p_in3_4, p_sub4_0, p_in4_0, p_sub4_1, p_in4_1, p_sub4_2, p_in4_2, p_sub4_3, p_in4_3, p_sub4_4, p_in4_4, $as,*])
local macro_rules | `(tactic| simp?! [$as,*]) => `(tactic| simp (config := { decide := true, implicitDefEqProofs := false }) only [still_non, fz_non, finD_non, still_bl, fz_bl, finD_bl, still_int, fz_int, finD_int, still_str, fz_str, finD_str, still_tup, fz_tup, finD_tup, still_lst, fz_lst, finD_lst, still_obj, fz_obj, finD_obj, still_dic0, fz_dic0, finD_dic0, still_loc, fz_loc, finD_loc, still_new, u_fz_new, finD_new, finD_own, fz_own, still_own, still_exn, nol_non, nol_bl, nol_int, nol_str, nol_dic0, nol_obj, nol_tup, nol_lst, nols_nil, nols_cons, truth_non, truth_bl, truth_int, truth_tup, seqOf_tup, itOf_tup, truth_lst, seqOf_lst, itOf_lst, isL_lst, truth_new, seqOf_new, itOf_new, isL_new, truth_own, seqOf_own, itOf_own, isL_own, itList_fix, isOw_own, isOw_non, isOw_bl, isOw_int, isOw_str, isOw_tup, isOw_obj, isOw_dic0, isOw_loc, isOw_exn, isOw_new, isOw_lst, isOw_scr, itW_t, itW_f, itList_ow, varD_val, varD_own, bind_ok, bind_err, b_ok, b_err, o_next, o_ret, o_brk, o_cont, o_err, noErr_o, fzs_of, binD_int, binI_add, binI_sub, binI_mul, binI_mod, binI_fdiv, binI_pow, kTup_of, kLst_of, kCall_of, kMake_of, mkD_ok, mkD_err, kAnd_tt, kAnd_tf, kAnd_ft, kAnd_ff, kIte_t, kIte_f, kNot_bl, sIte_t, sIte_f, sIte_ot, sIte_of, kNeg_int, kIsi_eq, kIsi_eqX, isiR_some, cmp_lt, cmp_le, cmp_gt, cmp_ge, cmp_eq_int, cmp_ne_int, cmp_eq_bl, cmp_ne_bl, bt_abs, bt_int, bt_int_bl, bt_tuple_tup, fin_ret, fin_next, fin_err, sSet_of, sSetO_of, sSetL_of, sPar2_of, sItem3_of, stOw_own, sAppO_of, sItemO2_of, sItemO_eq, retOw_own, ownC_own, stO_some, stL_some, sApp2_of, appD_of, frzD_own, sRaise_of, sFor_fix, forF_nil, forF_cons, forK_next, forK_cont, forK_brk, forK_ret, forK_err, bindT_nm, lcF_nil, lcF_cons, lcAcc_some, lcAcc_none, lcEnd_of, kSeq_loc, dynD_lst, kRng1_of, kSl_def, kSl2_def, List.map_cons, List.map_nil, List.cons_append, List.nil_append, List.length_cons, List.length_nil, List.replicate, List.getElem?_cons_zero, List.getElem?_cons_succ, List.set_cons_zero, List.set_cons_succ, List.length_set, List.all_cons, List.all_nil, Bool.and_true, Bool.and_self, Bool.not_true, Bool.not_false, if_true, if_false, Nat.reduceAdd, Nat.reduceSub, Nat.reduceLT, Nat.reduceEqDiff, decide_true, decide_false, Int.reduceNeg, evE_0, evE_1, evE_2, evE_3, evE_4, evE_5, evE_6, evE_7, evE_8, evE_9, evE_10, evE_11, evE_12, evE_13, evE_14, evE_15, evE_16, evE_17, evE_18, evE_19, evE_20, evE_21, evE_22, evE_23, evE_24, evE_25, evE_26, evEs_0, evEs_1, evAnd_0, evAnd_1, evAnd_2, evI_0, evI_1, evI_2, evI_3, evI_4, evI_5, kRev_lst, kRev_new, kEnum_tup, kEnum_lst, kEnum_new, enumD4, evS_0, evS_1, evS_2, evS_3, evS_4, evS_5, evS_6, evS_7, evS_8, evS_9, evS_10, evS_11, evS_12, evS_13, evS_14, evS_15, evS_16, evS_17, evS_18, evS_19, hasX_nil, hasX_emp, hasX_val, hasX_own, nxC_of, clrE_none, clrE_some, clr_next, clr_brk, clr_cont, clr_ret, hdlE_none, hdlE_some, varD_exc, evS_20, evS_21, evS_22, evB_0, evB_1, evB_2, kBin_eq, kCmp_eq, kChain_eq, kChainB_eq, kCons_eq, kCons2_eq, kIx_eq, kMeth_eq, kMeth1_eq, sPar_eq, sAttr_eq, sItem_eq, sItem2_eq, sApp_loc, sAppC_lst, sExpr_eq, sRet_of, forStep_eq, lcStep_eq, kRng2_eq, kZip_eq, forB_some, lcIn_some, lcTest_t, lcTest_f, wipeE_nil, wipeE_cons, setAll_nil, setAll_cons, bindT_tp, bindT_tpn, bindT_tpl, sSetT_tup, sSetT_new, sSetT_lst, nextO_some, kInt_int, kTest_bl, kChainC_t, kChainC_f, CE.isNul, optI_t, optI_f, tstC_t, tstC_f, ne_eq, not_false_eq_true, kSeq_tup, kSeq_lst, kSeq_new, kSeq_scr, kSeq_own, ixD_eq, ixS_some, ixR_some, seqOf_locq, seqC_lst, ln_tup, ln_lst, ln_new, ln_own, ln_scr, ln_loc, lenR_some, bt_listq, listR_some, storD_locq, storC_lst, putD_eq, attr_objq, attr_exnq, attr_locq, attrC_ins, fldR_some, setaD_loc, setaC_ins, setaF_some, kComp_fix, kComp_ow, kMeth2_still, kNot_q, notR_some, sl_scr, sl_lst, sl_new, sl_own, cmp_own_l, cmp_own_r, eqK_some, kNeg_q, negK_some, Option.isSome_some, eq_self, beq_self_eq_true,  cmp_eq_str, cmpOk_obj, isi_obj_ty, isi_obj_own, isi_exn_own, isi_exn_ve, Option.bind_some, Option.map_some, Int.reduceToNat, still_scr, fz_scr, binD_oo, binD_oi, binD_io, binL_obj, binL_int, binRt_some, rOk_add, rOk_sub, rOk_mul, whT_t, whT_f, whK_next, whK_cont, whK_brk, whK_ret, cmp_isn_non, cmp_isb, cmp_isnb, kBl_bl, sAttr2_of, nextS_some, sTry_next, sTry_ret, u_sTry_err, hasX_exc, isX_f1, seqOf_scr, cmp_eq_dic, isi_non_int, isi_non_bool, isi_non_str, isi_non_tuple, isi_non_list, isi_non_dict, isi_non_own, cmpOk_non, eqOf_non, isi_bl_int, isi_bl_bool, isi_bl_str, isi_bl_tuple, isi_bl_list, isi_bl_dict, isi_bl_own, cmpOk_bl, eqOf_bl, isi_int_int, isi_int_bool, isi_int_str, isi_int_tuple, isi_int_list, isi_int_dict, isi_int_own, cmpOk_int, eqOf_int, isi_str_int, isi_str_bool, isi_str_str, isi_str_tuple, isi_str_list, isi_str_dict, isi_str_own, cmpOk_str, eqOf_str, isi_tup_int, isi_tup_bool, isi_tup_str, isi_tup_tuple, isi_tup_list, isi_tup_dict, isi_tup_own, cmpOk_tup, eqOf_tup, isi_lst_int, isi_lst_bool, isi_lst_str, isi_lst_tuple, isi_lst_list, isi_lst_dict, isi_lst_own, cmpOk_lst, eqOf_lst, isi_new_int, isi_new_bool, isi_new_str, isi_new_tuple, isi_new_list, isi_new_dict, isi_new_own, cmpOk_new, eqOf_new, isi_loc_int, isi_loc_bool, isi_loc_str, isi_loc_tuple, isi_loc_list, isi_loc_dict, isi_loc_own, isi_dic_int, isi_dic_bool, isi_dic_str, isi_dic_tuple, isi_dic_list, isi_dic_dict, isi_dic_own, cmpOk_dic, eqOf_dic, leftOk_int, leftOk_bl, p_exc0, p_nf0, p_exc1, p_nf1, p_f1_6, p_exc2, p_nf2, p_f2_5, p_exc3, p_nf3, p_f3_3, p_exc4, p_nf4, p_f4_4, p_cls5, p_nf5, p_f5_0, p_f5_1, p_f5_2, p_eq5, p_op5_add, p_op5_sub, p_op5_mul, p_neg5, p_sub0_0, p_in0_0, p_sub0_1, p_in0_1, p_sub0_2, p_in0_2, p_sub0_3, p_in0_3, p_sub0_4, p_in0_4, p_sub1_0, p_in1_0, p_sub1_1, p_in1_1, p_sub1_2, p_in1_2, p_sub1_3, p_in1_3, p_sub1_4, p_in1_4, p_sub2_0, p_in2_0, p_sub2_1, p_in2_1, p_sub2_2, p_in2_2, p_sub2_3, p_in2_3, p_sub2_4, p_in2_4, p_sub3_0, p_in3_0, p_sub3_1, p_in3_1, p_sub3_2, p_in3_2, p_sub3_3, p_in3_3, p_sub3_4, p_in3_4, p_sub4_0, p_in4_0, p_sub4_1, p_in4_1, p_sub4_2, p_in4_2, p_sub4_3, p_in4_3, p_sub4_4, p_in4_4, $as,*])
/-! ### drawn numbers -/
def mx (a b : Int) : Int := (((((a + 7919 * b + 1) * 48271).fmod 2147483647 * ((((a + 7919 * b + 1) * 48271).fmod 2147483647).fdiv 1009 + 69621)).fmod 2147483647 *
  (((((a + 7919 * b + 1) * 48271).fmod 2147483647 * ((((a + 7919 * b + 1) * 48271).fmod 2147483647).fdiv 1009 + 69621)).fmod 2147483647).fdiv 2003 + 40692)).fmod 2147483399)
theorem fm_nn (a : Int) {b : Int} (hb : 0 < b) : 0 ≤ a.fmod b := by
  rw [Int.fmod_eq_emod_of_nonneg _ (by omega)]
  exact Int.emod_nonneg _ (by omega)
theorem bnd_of {i : Int} {j : Nat} (h0 : 0 ≤ i) (h : i < (j : Int)) {m : Nat} (hm : j ≤ 2 ^ m) : Bnd i m := ⟨by omega⟩
instance bnd_mx {a b : Int} : Bnd (mx a b) 31 := by
  refine bnd_of (j := 2147483399) (fm_nn _ (by decide)) (Int.fmod_lt_of_pos _ (by decide)) (by decide)
theorem c_mix (n : Nat) (a b : Int) {m k : Nat} [ha : Bnd a m] [hb : Bnd b k] (h1 : m ≤ 2000000) (h2 : k ≤ 1000) (S : Sto) : Tk.call P (n+1) 35 [.int a, .int b] S = .ok (.int (mx a b)) S := by
  have hA : Bnd a 2000000 := ha.mono h1
  have hB : Bnd b 1000 := hb.mono h2
  clear ha hb
  simpa?! [r35, b35, mx]
theorem rng7 : rngD 0 7 = [.int 0, .int 1, .int 2, .int 3, .int 4, .int 5, .int 6] := rfl
/-- what is known of the state: its place may go on k times -/
structure V (k : Nat) (a r : Int) : Prop where
  a0 : 0 ≤ a
  a1 : a + k ≤ 1000000000
  r0 : 0 ≤ r
  r1 : r.natAbs < 2 ^ 1048577
theorem V.mono {k j : Nat} {a r : Int} (v : V k a r) (h : j ≤ k) : V j a r := ⟨v.a0, by have := v.a1; omega, v.r0, v.r1⟩
theorem fd_nn {a b : Int} (h : 0 ≤ a) (hb : 0 < b) : 0 ≤ a.fdiv b := Int.fdiv_nonneg h (by omega)
theorem fd_le {a b : Int} (h : 0 ≤ a) (hb : 0 < b) : (a.fdiv b).natAbs ≤ a.natAbs := by
  rw [Int.fdiv_eq_ediv_of_nonneg _ (by omega)]
  exact Int.natAbs_ediv_le_natAbs a b
theorem at3_0 {α : Type} (x y z : α) : L2.atI [x, y, z] 0 = some x := rfl
theorem at3_1 {α : Type} (x y z : α) : L2.atI [x, y, z] 1 = some y := rfl
theorem at3_2 {α : Type} (x y z : α) : L2.atI [x, y, z] 2 = some z := rfl
/-- the state's cell -/
abbrev St (cs : List Int) (a r : Int) : Cell := .lst [.lst (cs.map D.int), .int a, .int r]
theorem draw_ok (n : Nat) (cs : List Int) (hcs : ∀ z ∈ cs, z.natAbs < 2 ^ 1048576) {k : Nat} {a r many : Int} (v : V (k+1) a r) (hm : 0 < many) {m : Nat} [Bnd many m] (h9 : m < 9000) :
    ∃ d a' r', 0 ≤ d ∧ d < many ∧ V k a' r' ∧ Tk.call P (n+2) 36 [.loc 0, .int many] [St cs a r] = .ok (.int d) [St cs a' r'] := by
  have hm0 : many ≠ 0 := by omega
  by_cases hr : 0 < r
  · refine ⟨_, _, _, fm_nn r hm, Int.fmod_lt_of_pos r hm, (⟨v.a0, by have := v.a1; omega, fd_nn v.r0 hm, Nat.lt_of_le_of_lt (fd_le v.r0 hm) v.r1⟩ : V k a (r.fdiv many)), ?_⟩
    simpa?! [r36, b36_t0, b36_t1, b36_t2, b36_t3, b36_t4, b36_t5, b36_t6, b36_t7, b36_t8, b36_t9, b36_s0, b36_s1, b36_s2, b36_s3, b36_s4, b36_s5, b36_s6, b36_s7, b36_s8, b36_s9, hr, hm0, h9]
  · by_cases hl : a < (cs.length : Int)
    · have ht : a.toNat < cs.length := by have := v.a0; omega
      have hg : (List.map D.int cs)[a.toNat]? = some (.int cs[a.toNat]) := by rw [List.getElem?_map, List.getElem?_eq_getElem ht]; rfl
      have hix : L2.atI (List.map D.int cs) a = some (.int cs[a.toNat]) := by
        unfold L2.atI L2.ixN
        rw [if_pos v.a0, List.length_map, if_pos hl]
        exact hg
      have hz := hcs _ (List.getElem_mem ht)
      generalize cs[a.toNat] = z at hix hz
      have hbz : Bnd z 1048576 := ⟨hz⟩
      have hr0 : r = 0 := by have := v.r0; omega
      subst hr0
      have hba : Bnd a 64 := ⟨by have := v.a1; have := v.a0; omega⟩
      have hlen : 0 < (cs.length : Int) := by have := v.a0; omega
      have hmod : a.fmod (cs.length : Int) = a := by
        rw [Int.fmod_eq_emod_of_nonneg _ (by omega)]
        exact Int.emod_eq_of_lt v.a0 hl
      have hl0 : (cs.length : Int) ≠ 0 := by omega
      by_cases hz2 : 10 ^ 18 ≤ (if z < 0 then -z else z)
      · refine ⟨_, _, _, fm_nn (if z < 0 then -z else z) hm, Int.fmod_lt_of_pos _ hm, (⟨by have := v.a0; omega, by have := v.a1; omega, fd_nn (a := if z < 0 then -z else z) (by omega) hm, Nat.lt_of_le_of_lt (fd_le (by omega) hm) (Nat.lt_trans (n := (if z < 0 then -z else z).natAbs) (m := 2 ^ 1048576) (by split <;> omega) (Nat.pow_lt_pow_right (by decide) (by decide)))⟩ : V k (a + 1) ((if z < 0 then -z else z).fdiv many)), ?_⟩
        simp?! [r36, b36_t0, b36_t1, b36_t2, b36_t3, b36_t4, b36_t5, b36_t6, b36_t7, b36_t8, b36_t9, b36_s0, b36_s1, b36_s2, b36_s3, b36_s4, b36_s5, b36_s6, b36_s7, b36_s8, b36_s9, hr, hm0, h9, List.length_map, hl, hix, hz2, L2.ixN, at3_0, at3_1, at3_2]
      · have vv : V k (a + 1) 0 := ⟨by have := v.a0; omega, by have := v.a1; omega, by omega, Nat.two_pow_pos _⟩
        by_cases hk : 1000000 < many
        · refine ⟨?_, _, _, ?_, ?_, vv, ?h⟩
          case h =>
            simp?! [r36, b36_t0, b36_t1, b36_t2, b36_t3, b36_t4, b36_t5, b36_t6, b36_t7, b36_t8, b36_t9, b36_s0, b36_s1, b36_s2, b36_s3, b36_s4, b36_s5, b36_s6, b36_s7, b36_s8, b36_s9, hr, hm0, h9, List.length_map, hl, hix, hz2, L2.ixN, at3_0, at3_1, at3_2, hlen, hl0, hmod, hk, rng7, c_mix]
            exact rfl
          · exact fm_nn _ hm
          · exact Int.fmod_lt_of_pos _ hm
        · refine ⟨?_, _, _, ?_, ?_, vv, ?h⟩
          case h =>
            simp?! [r36, b36_t0, b36_t1, b36_t2, b36_t3, b36_t4, b36_t5, b36_t6, b36_t7, b36_t8, b36_t9, b36_s0, b36_s1, b36_s2, b36_s3, b36_s4, b36_s5, b36_s6, b36_s7, b36_s8, b36_s9, hr, hm0, h9, List.length_map, hl, hix, hz2, L2.ixN, at3_0, at3_1, at3_2, hlen, hl0, hmod, hk, c_mix]
            exact rfl
          · exact fm_nn _ hm
          · exact Int.fmod_lt_of_pos _ hm
    · have hr0 : r = 0 := by have := v.r0; omega
      subst hr0
      have hba : Bnd a 64 := ⟨by have := v.a1; have := v.a0; omega⟩
      have vv : V k (a + 1) 0 := ⟨by have := v.a0; omega, by have := v.a1; omega, by omega, Nat.two_pow_pos _⟩
      by_cases hlen : 0 < (cs.length : Int)
      · have hl0 : (cs.length : Int) ≠ 0 := by omega
        have m1 := fm_nn a hlen
        have m2 := Int.fmod_lt_of_pos a hlen
        have ht : (a.fmod (cs.length : Int)).toNat < cs.length := by omega
        have hg : (List.map D.int cs)[(a.fmod (cs.length : Int)).toNat]? = some (.int cs[(a.fmod (cs.length : Int)).toNat]) := by rw [List.getElem?_map, List.getElem?_eq_getElem ht]; rfl
        have hix : L2.atI (List.map D.int cs) (a.fmod (cs.length : Int)) = some (.int cs[(a.fmod (cs.length : Int)).toNat]) := by
          unfold L2.atI L2.ixN
          rw [if_pos m1, List.length_map, if_pos m2]
          exact hg
        have hz := hcs _ (List.getElem_mem ht)
        generalize cs[(a.fmod (cs.length : Int)).toNat] = z at hix hz
        have hbz : Bnd z 1048576 := ⟨hz⟩
        by_cases hk : 1000000 < many
        · refine ⟨?_, _, _, ?_, ?_, vv, ?h⟩
          case h =>
            simp?! [r36, b36_t0, b36_t1, b36_t2, b36_t3, b36_t4, b36_t5, b36_t6, b36_t7, b36_t8, b36_t9, b36_s0, b36_s1, b36_s2, b36_s3, b36_s4, b36_s5, b36_s6, b36_s7, b36_s8, b36_s9, hr, hm0, h9, List.length_map, hl, hix, L2.ixN, at3_0, at3_1, at3_2, hlen, hl0, hk, rng7, c_mix]
            exact rfl
          · exact fm_nn _ hm
          · exact Int.fmod_lt_of_pos _ hm
        · refine ⟨?_, _, _, ?_, ?_, vv, ?h⟩
          case h =>
            simp?! [r36, b36_t0, b36_t1, b36_t2, b36_t3, b36_t4, b36_t5, b36_t6, b36_t7, b36_t8, b36_t9, b36_s0, b36_s1, b36_s2, b36_s3, b36_s4, b36_s5, b36_s6, b36_s7, b36_s8, b36_s9, hr, hm0, h9, List.length_map, hl, hix, L2.ixN, at3_0, at3_1, at3_2, hlen, hl0, hk, c_mix]
            exact rfl
          · exact fm_nn _ hm
          · exact Int.fmod_lt_of_pos _ hm
      · by_cases hk : 1000000 < many
        · refine ⟨?_, _, _, ?_, ?_, vv, ?h⟩
          case h =>
            simp?! [r36, b36_t0, b36_t1, b36_t2, b36_t3, b36_t4, b36_t5, b36_t6, b36_t7, b36_t8, b36_t9, b36_s0, b36_s1, b36_s2, b36_s3, b36_s4, b36_s5, b36_s6, b36_s7, b36_s8, b36_s9, hr, hm0, h9, List.length_map, hl, L2.ixN, at3_0, at3_1, at3_2, hlen, hk, rng7, c_mix]
            exact rfl
          · exact fm_nn _ hm
          · exact Int.fmod_lt_of_pos _ hm
        · refine ⟨?_, _, _, ?_, ?_, vv, ?h⟩
          case h =>
            simp?! [r36, b36_t0, b36_t1, b36_t2, b36_t3, b36_t4, b36_t5, b36_t6, b36_t7, b36_t8, b36_t9, b36_s0, b36_s1, b36_s2, b36_s3, b36_s4, b36_s5, b36_s6, b36_s7, b36_s8, b36_s9, hr, hm0, h9, List.length_map, hl, L2.ixN, at3_0, at3_1, at3_2, hlen, hk, c_mix]
            exact rfl
          · exact fm_nn _ hm
          · exact Int.fmod_lt_of_pos _ hm
theorem btw_ok (n : Nat) (cs : List Int) (hcs : ∀ z ∈ cs, z.natAbs < 2 ^ 1048576) {k : Nat} {a r lo hi : Int} (v : V (k+1) a r) (h : lo ≤ hi) {m p : Nat} [Bnd lo m] [Bnd hi p] (h9 : max (max p m + 1) 1 + 1 < 9000) :
    ∃ d a' r', lo ≤ d ∧ d ≤ hi ∧ V k a' r' ∧ Tk.call P (n+3) 37 [.loc 0, .int lo, .int hi] [St cs a r] = .ok (.int d) [St cs a' r'] := by
  obtain ⟨d, a', r', h1, h2, v', e⟩ := draw_ok n cs hcs v (many := hi - lo + 1) (by omega) (m := max (max p m + 1) 1 + 1) h9
  refine ⟨lo + d, a', r', by omega, by omega, v', ?_⟩
  simpa?! [r37, b37, e]
end Pg
set_option exponentiation.threshold 300
namespace Pg
open Tk
/-! ### a number in lowest terms -/
structure Num (a b c t r u p : Int) : Prop where
  ha : a = t * p
  hb : b = r * p
  hc : c = u * p
  hu : 0 < u
  hp : p ≠ 0
  hg : Int.gcd (Int.gcd t r : Nat) u = 1
theorem pp_ne {a b c : Int} (hc : c ≠ 0) : pp a b c ≠ 0 := by
  have h := gg_ne (a := a) (b := b) hc
  unfold pp gg
  split <;> omega
theorem num_ex {a b c : Int} (hc : c ≠ 0) : ∃ t r u, Num a b c t r u (pp a b c) := by
  have h0 := pp_ne (a := a) (b := b) hc
  have hg : gg a b c ∣ a ∧ gg a b c ∣ b ∧ gg a b c ∣ c := by
    have h1 : gg a b c ∣ ((Int.gcd a b : Nat) : Int) := Int.gcd_dvd_left ..
    have h2 : gg a b c ∣ c := Int.gcd_dvd_right ..
    exact ⟨Int.dvd_trans h1 (Int.gcd_dvd_left ..), Int.dvd_trans h1 (Int.gcd_dvd_right ..), h2⟩
  have hp : pp a b c ∣ a ∧ pp a b c ∣ b ∧ pp a b c ∣ c := by
    unfold pp
    split
    · exact ⟨Int.neg_dvd.mpr hg.1, Int.neg_dvd.mpr hg.2.1, Int.neg_dvd.mpr hg.2.2⟩
    · exact hg
  have hn : (pp a b c).natAbs = Int.gcd (Int.gcd a b : Nat) c := by
    unfold pp gg
    split <;> omega
  have hs : (c < 0 → pp a b c < 0) ∧ (0 < c → 0 < pp a b c) := by
    have h := gg_ne (a := a) (b := b) hc
    constructor
    · intro h1
      unfold pp gg
      rw [if_pos h1]; omega
    · intro h1
      unfold pp gg
      rw [if_neg (by omega)]; omega
  generalize pp a b c = p at *
  obtain ⟨⟨t, ht⟩, ⟨r, hr⟩, ⟨u, hu⟩⟩ := hp
  have hu0 : 0 < u := by
    rcases Int.lt_or_lt_of_ne hc with h | h
    · have := hs.1 h
      rcases Int.lt_trichotomy u 0 with w | w | w
      · have := Int.mul_pos_of_neg_of_neg (hs.1 h) w; omega
      · subst w; omega
      · exact w
    · have := hs.2 h
      rcases Int.lt_trichotomy u 0 with w | w | w
      · have := Int.mul_neg_of_pos_of_neg (hs.2 h) w; omega
      · subst w; omega
      · exact w
  refine ⟨t, r, u, by rw [ht, Int.mul_comm], by rw [hr, Int.mul_comm], by rw [hu, Int.mul_comm], hu0, h0, ?_⟩
  have e : Int.gcd (Int.gcd a b : Nat) c = p.natAbs * Int.gcd (Int.gcd t r : Nat) u := by
    rw [ht, hr, hu, Int.gcd_mul_left]
    have : (((p.natAbs * Int.gcd t r : Nat) : Int)).gcd (p * u) = ((p.natAbs : Int) * (Int.gcd t r : Nat)).gcd (p * u) := by rw [Int.natCast_mul]
    rw [this]
    unfold Int.gcd
    rw [Int.natAbs_mul, Int.natAbs_mul, Int.natAbs_natCast, Nat.gcd_mul_left]
  rw [← hn] at e
  have hp0 : 0 < p.natAbs := Int.natAbs_pos.mpr h0
  exact Nat.eq_of_mul_eq_mul_left hp0 (by rw [Nat.mul_one, ← e])
theorem num_pp {a b c t r u p : Int} (h : Num a b c t r u p) : pp a b c = p := by
  obtain ⟨rfl, rfl, rfl, hu, hp, hg⟩ := h
  have e : Int.gcd (Int.gcd (t * p) (r * p) : Nat) (u * p) = p.natAbs := by
    rw [Int.gcd_mul_right, Int.natCast_mul]
    unfold Int.gcd at hg ⊢
    rw [Int.natAbs_mul, Int.natAbs_mul, Int.natAbs_natCast, Int.natAbs_natCast, Nat.gcd_mul_right]
    rw [Int.natAbs_natCast] at hg
    rw [hg, Nat.one_mul]
  unfold pp gg
  rw [e]
  rcases Int.lt_or_lt_of_ne hp with h | h
  · rw [if_pos (Int.mul_neg_of_pos_of_neg hu h)]; omega
  · rw [if_neg (by have := Int.mul_pos hu h; omega)]; omega
theorem fd_mul {t p : Int} (hp : p ≠ 0) : (t * p).fdiv p = t := Int.mul_fdiv_cancel t hp
theorem num_fd {a b c t r u p : Int} (h : Num a b c t r u p) : a.fdiv (pp a b c) = t ∧ b.fdiv (pp a b c) = r ∧ c.fdiv (pp a b c) = u := by
  rw [num_pp h]
  obtain ⟨rfl, rfl, rfl, hu, hp, hg⟩ := h
  exact ⟨fd_mul hp, fd_mul hp, fd_mul hp⟩
theorem num_rt {a b c t r u p : Int} (h : Num a b c t r u p) : rt a b c = .obj 5 [.int t, .int r, .int u] := by
  obtain ⟨h1, h2, h3⟩ := num_fd h
  unfold rt
  rw [h1, h2, h3]
theorem num_c0 {a b c t r u p : Int} (h : Num a b c t r u p) : c ≠ 0 := by
  rw [h.hc]; exact Int.mul_ne_zero (by have := h.hu; omega) h.hp
theorem num_scale {a b c t r u p : Int} (h : Num a b c t r u p) {f : Int} (hf : f ≠ 0) : Num (-a * f) (-b * f) (-c * f) t r u (-p * f) :=
  ⟨by rw [h.ha]; grind, by rw [h.hb]; grind, by rw [h.hc]; grind, h.hu, by have := h.hp; exact Int.mul_ne_zero (by omega) hf, h.hg⟩
theorem num_far {a b c t r u p : Int} (h : Num a b c t r u p) : Num (a + c) b c (t + u) r u p := by
  refine ⟨by rw [h.ha, h.hc]; grind, h.hb, h.hc, h.hu, h.hp, ?_⟩
  have g := h.hg
  have e : ∀ d : Nat, (d : Int) ∣ t + u → (d : Int) ∣ u → (d : Int) ∣ t := fun d h1 h2 => by
    have := Int.dvd_sub h1 h2
    rwa [Int.add_sub_cancel] at this
  refine Nat.dvd_one.mp ?_
  rw [← g]
  have h1 : ((Int.gcd (Int.gcd (t + u) r : Nat) u : Nat) : Int) ∣ ((Int.gcd (t + u) r : Nat) : Int) := Int.gcd_dvd_left ..
  have h2 : ((Int.gcd (Int.gcd (t + u) r : Nat) u : Nat) : Int) ∣ u := Int.gcd_dvd_right ..
  have h3 := Int.dvd_trans h1 (Int.gcd_dvd_left ..)
  have h4 := Int.dvd_trans h1 (Int.gcd_dvd_right ..)
  have h5 := e _ h3 h2
  exact Int.dvd_gcd (Int.dvd_coe_gcd h5 h4) h2
/-- a triple in lowest terms is one number's alone -/
theorem num_un {a b c a' b' c' t r u p p' : Int} (h : Num a b c t r u p) (h' : Num a' b' c' t r u p') (e : c = c') : a = a' ∧ b = b' := by
  have hu := h.hu
  have e2 : p = p' := by
    have := h.hc.symm.trans (e.trans h'.hc)
    exact Int.eq_of_mul_eq_mul_left (by omega) this
  exact ⟨by rw [h.ha, h'.ha, e2], by rw [h.hb, h'.hb, e2]⟩
theorem num_neg {a b c t r u p : Int} (h : Num a b c t r u p) : Num (-a) (-b) c (-t) (-r) u p := by
  refine ⟨by rw [h.ha]; grind, by rw [h.hb]; grind, h.hc, h.hu, h.hp, ?_⟩
  rw [Int.gcd_neg, Int.neg_gcd]; exact h.hg
theorem num_turn {a b c t r u p : Int} (h : Num a b c t r u p) : Num a (-b) c t (-r) u p := by
  refine ⟨h.ha, by rw [h.hb]; grind, h.hc, h.hu, h.hp, ?_⟩
  rw [Int.gcd_neg]; exact h.hg
/-- the triple as a number -/
theorem num_self {a b c t r u p : Int} (h : Num a b c t r u p) : Num t r u t r u 1 := ⟨by omega, by omega, by omega, h.hu, by decide, h.hg⟩
theorem num_whole {a b c t r u p w : Int} (h : Num a b c t r u p) : (decide (r = 0) && (decide (u = 1) && decide (t = w))) = (decide (b = 0) && decide (a = w * c)) := by
  have h1 : (r = 0 ∧ u = 1 ∧ t = w) ↔ (b = 0 ∧ a = w * c) := by
    constructor
    · rintro ⟨rfl, rfl, rfl⟩
      exact ⟨by rw [h.hb]; simp, by rw [h.ha, h.hc]; simp⟩
    · rintro ⟨e1, e2⟩
      have hr : r = 0 := by
        have := h.hb
        rw [e1] at this
        rcases Int.mul_eq_zero.mp this.symm with z | z
        · exact z
        · exact absurd z h.hp
      have ht : t = w * u := by
        have : t * p = (w * u) * p := by rw [← h.ha, e2, h.hc]; grind
        exact Int.eq_of_mul_eq_mul_right h.hp this
      have hg := h.hg
      have hu := h.hu
      subst hr
      have hu1 : u = 1 := by
        have d : u ∣ ((Int.gcd t 0 : Nat) : Int) := Int.dvd_coe_gcd (by rw [ht]; exact Int.dvd_mul_left _ _) (Int.dvd_zero u)
        have d2 : u ∣ ((Int.gcd (Int.gcd t 0 : Nat) u : Nat) : Int) := Int.dvd_coe_gcd d (Int.dvd_refl u)
        rw [hg] at d2
        exact Int.eq_one_of_dvd_one (by omega) d2
      exact ⟨rfl, hu1, by rw [ht, hu1, Int.mul_one]⟩
  by_cases h2 : r = 0 ∧ u = 1 ∧ t = w
  · obtain ⟨h3, h4⟩ := h1.mp h2
    simp [h2.1, h2.2.1, h2.2.2, h3, h4]
  · have h3 : ¬ (b = 0 ∧ a = w * c) := fun z => h2 (h1.mpr z)
    have e1 : (decide (r = 0) && (decide (u = 1) && decide (t = w))) = false := by simpa using h2
    have e2 : (decide (b = 0) && decide (a = w * c)) = false := by simpa using h3
    rw [e1, e2]
theorem num_ule {a b c t r u p : Int} (h : Num a b c t r u p) {m : Nat} (hc : Bnd c m) : Bnd u m := ⟨by
  have h1 := hc.h
  rw [h.hc, Int.natAbs_mul] at h1
  have h2 : 0 < p.natAbs := Int.natAbs_pos.mpr h.hp
  exact Nat.lt_of_le_of_lt (Nat.le_mul_of_pos_right _ h2) h1⟩
theorem num_tle {a b c t r u p : Int} (h : Num a b c t r u p) {m : Nat} (hc : Bnd a m) : Bnd t m := ⟨by
  have h1 := hc.h
  rw [h.ha, Int.natAbs_mul] at h1
  have h2 : 0 < p.natAbs := Int.natAbs_pos.mpr h.hp
  exact Nat.lt_of_le_of_lt (Nat.le_mul_of_pos_right _ h2) h1⟩
theorem num_rle {a b c t r u p : Int} (h : Num a b c t r u p) {m : Nat} (hc : Bnd b m) : Bnd r m := ⟨by
  have h1 := hc.h
  rw [h.hb, Int.natAbs_mul] at h1
  have h2 : 0 < p.natAbs := Int.natAbs_pos.mpr h.hp
  exact Nat.lt_of_le_of_lt (Nat.le_mul_of_pos_right _ h2) h1⟩
end Pg
set_option exponentiation.threshold 300
namespace Pg
open Tk
local macro_rules | `(tactic| simpa?! [$as,*]) => `(tactic| simp (config := { decide := true, implicitDefEqProofs := false }) only [still_non, fz_non, finD_non, still_bl, fz_bl, finD_bl, still_int, fz_int, finD_int, still_str, fz_str, finD_str, still_tup, fz_tup, finD_tup, still_lst, fz_lst, finD_lst, still_obj, fz_obj, finD_obj, still_dic0, fz_dic0, finD_dic0, still_loc, fz_loc, finD_loc, still_new, u_fz_new, finD_new, finD_own, fz_own, still_own, still_exn, nol_non, nol_bl, nol_int, nol_str, nol_dic0, nol_obj, nol_tup, nol_lst, nols_nil, nols_cons, truth_non, truth_bl, truth_int, truth_tup, seqOf_tup, itOf_tup, truth_lst, seqOf_lst, itOf_lst, isL_lst, truth_new, seqOf_new, itOf_new, isL_new, truth_own, seqOf_own, itOf_own, isL_own, itList_fix, isOw_own, isOw_non, isOw_bl, isOw_int, isOw_str, isOw_tup, isOw_obj, isOw_dic0, isOw_loc, isOw_exn, isOw_new, isOw_lst, isOw_scr, itW_t, itW_f, itList_ow, varD_val, varD_own, bind_ok, bind_err, b_ok, b_err, o_next, o_ret, o_brk, o_cont, o_err, noErr_o, fzs_of, binD_int, binI_add, binI_sub, binI_mul, binI_mod, binI_fdiv, binI_pow, kTup_of, kLst_of, kCall_of, kMake_of, mkD_ok, mkD_err, kAnd_tt, kAnd_tf, kAnd_ft, kAnd_ff, kIte_t, kIte_f, kNot_bl, sIte_t, sIte_f, sIte_ot, sIte_of, kNeg_int, kIsi_eq, kIsi_eqX, isiR_some, cmp_lt, cmp_le, cmp_gt, cmp_ge, cmp_eq_int, cmp_ne_int, cmp_eq_bl, cmp_ne_bl, bt_abs, bt_int, bt_int_bl, bt_tuple_tup, fin_ret, fin_next, fin_err, sSet_of, sSetO_of, sSetL_of, sPar2_of, sItem3_of, stOw_own, sAppO_of, sItemO2_of, sItemO_eq, retOw_own, ownC_own, stO_some, stL_some, sApp2_of, appD_of, frzD_own, sRaise_of, sFor_fix, forF_nil, forF_cons, forK_next, forK_cont, forK_brk, forK_ret, forK_err, bindT_nm, lcF_nil, lcF_cons, lcAcc_some, lcAcc_none, lcEnd_of, kSeq_loc, dynD_lst, kRng1_of, kSl_def, kSl2_def, List.map_cons, List.map_nil, List.cons_append, List.nil_append, List.length_cons, List.length_nil, List.replicate, List.getElem?_cons_zero, List.getElem?_cons_succ, List.set_cons_zero, List.set_cons_succ, List.length_set, List.all_cons, List.all_nil, Bool.and_true, Bool.and_self, Bool.not_true, Bool.not_false, if_true, if_false, Nat.reduceAdd, Nat.reduceSub, Nat.reduceLT, Nat.reduceEqDiff, decide_true, decide_false, Int.reduceNeg, evE_0, evE_1, evE_2, evE_3, evE_4, evE_5, evE_6, evE_7, evE_8, evE_9, evE_10, evE_11, evE_12, evE_13, evE_14, evE_15, evE_16, evE_17, evE_18, evE_19, evE_20, evE_21, evE_22, evE_23, evE_24, evE_25, evE_26, evEs_0, evEs_1, evAnd_0, evAnd_1, evAnd_2, evI_0, evI_1, evI_2, evI_3, evI_4, evI_5, kRev_lst, kRev_new, kEnum_tup, kEnum_lst, kEnum_new, enumD4, evS_0, evS_1, evS_2, evS_3, evS_4, evS_5, evS_6, evS_7, evS_8, evS_9, evS_10, evS_11, evS_12, evS_13, evS_14, evS_15, evS_16, evS_17, evS_18, evS_19, hasX_nil, hasX_emp, hasX_val, hasX_own, nxC_of, clrE_none, clrE_some, clr_next, clr_brk, clr_cont, clr_ret, hdlE_none, hdlE_some, varD_exc, evS_20, evS_21, evS_22, evB_0, evB_1, evB_2, kBin_eq, kCmp_eq, kChain_eq, kChainB_eq, kCons_eq, kCons2_eq, kIx_eq, kMeth_eq, kMeth1_eq, sPar_eq, sAttr_eq, sItem_eq, sItem2_eq, sApp_loc, sAppC_lst, sExpr_eq, sRet_of, forStep_eq, lcStep_eq, kRng2_eq, kZip_eq, forB_some, lcIn_some, lcTest_t, lcTest_f, wipeE_nil, wipeE_cons, setAll_nil, setAll_cons, bindT_tp, bindT_tpn, bindT_tpl, sSetT_tup, sSetT_new, sSetT_lst, nextO_some, kInt_int, kTest_bl, kChainC_t, kChainC_f, CE.isNul, optI_t, optI_f, tstC_t, tstC_f, ne_eq, not_false_eq_true, kSeq_tup, kSeq_lst, kSeq_new, kSeq_scr, kSeq_own, ixD_eq, ixS_some, ixR_some, seqOf_locq, seqC_lst, ln_tup, ln_lst, ln_new, ln_own, ln_scr, ln_loc, lenR_some, bt_listq, listR_some, storD_locq, storC_lst, putD_eq, attr_objq, attr_exnq, attr_locq, attrC_ins, fldR_some, setaD_loc, setaC_ins, setaF_some, kComp_fix, kComp_ow, kMeth2_still, kNot_q, notR_some, sl_scr, sl_lst, sl_new, sl_own, cmp_own_l, cmp_own_r, eqK_some, kNeg_q, negK_some, Option.isSome_some, eq_self, beq_self_eq_true,  cmp_eq_str, cmpOk_obj, isi_obj_ty, isi_obj_own, isi_exn_own, isi_exn_ve, L2.atI, L2.ixN, Option.bind_some, Option.map_some, Int.reduceToNat, still_scr, fz_scr, binD_oo, binD_oi, binD_io, binL_obj, binL_int, binRt_some, rOk_add, rOk_sub, rOk_mul, whT_t, whT_f, whK_next, whK_cont, whK_brk, whK_ret, cmp_isn_non, cmp_isb, cmp_isnb, kBl_bl, sAttr2_of, nextS_some, sTry_next, sTry_ret, u_sTry_err, hasX_exc, isX_f1, seqOf_scr, cmp_eq_dic, isi_non_int, isi_non_bool, isi_non_str, isi_non_tuple, isi_non_list, isi_non_dict, isi_non_own, cmpOk_non, eqOf_non, isi_bl_int, isi_bl_bool, isi_bl_str, isi_bl_tuple, isi_bl_list, isi_bl_dict, isi_bl_own, cmpOk_bl, eqOf_bl, isi_int_int, isi_int_bool, isi_int_str, isi_int_tuple, isi_int_list, isi_int_dict, isi_int_own, cmpOk_int, eqOf_int, isi_str_int, isi_str_bool, isi_str_str, isi_str_tuple, isi_str_list, isi_str_dict, isi_str_own, cmpOk_str, eqOf_str, isi_tup_int, isi_tup_bool, isi_tup_str, isi_tup_tuple, isi_tup_list, isi_tup_dict, isi_tup_own, cmpOk_tup, eqOf_tup, isi_lst_int, isi_lst_bool, isi_lst_str, isi_lst_tuple, isi_lst_list, isi_lst_dict, isi_lst_own, cmpOk_lst, eqOf_lst, isi_new_int, isi_new_bool, isi_new_str, isi_new_tuple, isi_new_list, isi_new_dict, isi_new_own, cmpOk_new, eqOf_new, isi_loc_int, isi_loc_bool, isi_loc_str, isi_loc_tuple, isi_loc_list, isi_loc_dict, isi_loc_own, isi_dic_int, isi_dic_bool, isi_dic_str, isi_dic_tuple, isi_dic_list, isi_dic_dict, isi_dic_own, cmpOk_dic, eqOf_dic, leftOk_int, leftOk_bl, p_exc0, p_nf0, p_exc1, p_nf1, p_f1_6, p_exc2, p_nf2, p_f2_5, p_exc3, p_nf3, p_f3_3, p_exc4, p_nf4, p_f4_4, p_cls5, p_nf5, p_f5_0, p_f5_1, p_f5_2, p_eq5, p_op5_add, p_op5_sub, p_op5_mul, p_neg5, p_sub0_0, p_in0_0, p_sub0_1, p_in0_1, p_sub0_2, p_in0_2, p_sub0_3, p_in0_3, p_sub0_4, p_in0_4, p_sub1_0, p_in1_0, p_sub1_1, p_in1_1, p_sub1_2, p_in1_2, p_sub1_3, p_in1_3, p_sub1_4, p_in1_4, p_sub2_0, p_in2_0, p_sub2_1, p_in2_1, p_sub2_2, p_in2_2, p_sub2_3, p_in2_3, p_sub2_4, p_in2_4, p_sub3_0, p_in3_0, p_sub3_1, p_in3_1, p_sub3_2, p_in3_2, p_sub3_3, p_in3_3, p_sub3_4, p_in3_4, p_sub4_0, p_in4_0, p_sub4_1, p_in4_1, p_sub4_2, p_in4_2, p_sub4_3, p_in4_3, p_sub4_4, p_in4_4, $as,*])
/-! ### numbers: sums, differences, products -/
theorem num_mul {a b c t r u p : Int} (h : Num a b c t r u p) {q : Int} (hq : q ≠ 0) : Num (a * q) (b * q) (c * q) t r u (p * q) :=
  ⟨by rw [h.ha]; grind, by rw [h.hb]; grind, by rw [h.hc]; grind, h.hu, Int.mul_ne_zero h.hp hq, h.hg⟩
/-- a number told by the multiple of another one's parts -/
theorem num_of {x y z X Y Z q t r u p : Int} (h : Num x y z t r u p) (hq : q ≠ 0) (h1 : X = x * q) (h2 : Y = y * q) (h3 : Z = z * q) : Num X Y Z t r u (p * q) := by
  subst h1 h2 h3
  exact num_mul h hq
/-- .. and back -/
theorem num_back {x y z X Y Z q t r u p : Int} (h : Num X Y Z t r u p) (hq : q ≠ 0) (h1 : X = x * q) (h2 : Y = y * q) (h3 : Z = z * q) : ∃ p', Num x y z t r u p' := by
  have hz : z ≠ 0 := fun e => num_c0 h (by rw [h3, e, Int.zero_mul])
  obtain ⟨t', r', u', h'⟩ := num_ex (a := x) (b := y) hz
  have h2' := num_of h' hq h1 h2 h3
  have e := num_fd h
  have e' := num_fd h2'
  obtain ⟨e1, e2, e3⟩ := e
  obtain ⟨f1, f2, f3⟩ := e'
  rw [e1] at f1; rw [e2] at f2; rw [e3] at f3
  subst f1 f2 f3
  exact ⟨_, h'⟩
/-! ### the squares of integers -/
theorem sq_even {n : Nat} : ∀ a b : Nat, a < n → a * a = 2 * (b * b) → a = 0 := by
  induction n with
  | zero => intro a b h; omega
  | succ n ih =>
    intro a b h e
    by_cases ha : a = 0
    · exact ha
    · obtain ⟨k, rfl⟩ : ∃ k, a = 2 * k := by
        rcases (by omega : a % 2 = 0 ∨ a % 2 = 1) with h2 | h2
        · exact ⟨a / 2, by omega⟩
        · exfalso
          obtain ⟨k, rfl⟩ : ∃ k, a = 2 * k + 1 := ⟨a / 2, by omega⟩
          have : (2 * k + 1) * (2 * k + 1) = 2 * (2 * k * k + 2 * k) + 1 := by grind
          omega
      have e2 : b * b = 2 * (k * k) := by
        have : 2 * k * (2 * k) = 2 * (2 * (k * k)) := by grind
        omega
      have hb : b < n := by
        rcases Nat.lt_or_ge b n with h1 | h1
        · exact h1
        · exfalso
          have h2 : k < b := by omega
          have h3 : k * k < b * b := Nat.mul_lt_mul'' h2 h2
          have h4 : (2 * k) * (2 * k) ≥ 0 := Nat.zero_le _
          by_cases hk : k = 0
          · omega
          · have h5 : 2 * k ≤ b := by omega
            have h6 : 2 * k * (2 * k) ≤ b * b := Nat.mul_le_mul h5 h5
            have h7 : 2 * k * (2 * k) = 4 * (k * k) := by grind
            have h8 : 0 < k * k := Nat.mul_pos (by omega) (by omega)
            omega
      have := ih b k hb e2
      subst this
      have : k * k = 0 := by omega
      have : k = 0 := by
        rcases Nat.mul_eq_zero.mp this with z | z <;> exact z
      omega
theorem sq_no {a b : Int} (h : a * a = 2 * (b * b)) : a = 0 ∧ b = 0 := by
  have h1 : a.natAbs * a.natAbs = 2 * (b.natAbs * b.natAbs) := by
    have := congrArg Int.natAbs h
    rw [Int.natAbs_mul, Int.natAbs_mul, Int.natAbs_mul] at this
    exact this
  have h2 := sq_even (n := a.natAbs + 1) a.natAbs b.natAbs (Nat.lt_succ_self _) h1
  have h3 : a = 0 := Int.natAbs_eq_zero.mp h2
  refine ⟨h3, ?_⟩
  rw [h2] at h1
  have h4 : b.natAbs * b.natAbs = 0 := by omega
  rcases Nat.mul_eq_zero.mp h4 with z | z <;> exact Int.natAbs_eq_zero.mp z
end Pg
set_option exponentiation.threshold 300
namespace Pg
open Tk
local macro_rules | `(tactic| simpa?! [$as,*]) => `(tactic| simp (config := { decide := true, implicitDefEqProofs := false }) only [still_non, fz_non, finD_non, still_bl, fz_bl, finD_bl, still_int, fz_int, finD_int, still_str, fz_str, finD_str, still_tup, fz_tup, finD_tup, still_lst, fz_lst, finD_lst, still_obj, fz_obj, finD_obj, still_dic0, fz_dic0, finD_dic0, still_loc, fz_loc, finD_loc, still_new, u_fz_new, finD_new, finD_own, fz_own, still_own, still_exn, nol_non, nol_bl, nol_int, nol_str, nol_dic0, nol_obj, nol_tup, nol_lst, nols_nil, nols_cons, truth_non, truth_bl, truth_int, truth_tup, seqOf_tup, itOf_tup, truth_lst, seqOf_lst, itOf_lst, isL_lst, truth_new, seqOf_new, itOf_new, isL_new, truth_own, seqOf_own, itOf_own, isL_own, itList_fix, isOw_own, isOw_non, isOw_bl, isOw_int, isOw_str, isOw_tup, isOw_obj, isOw_dic0, isOw_loc, isOw_exn, isOw_new, isOw_lst, isOw_scr, itW_t, itW_f, itList_ow, varD_val, varD_own, bind_ok, bind_err, b_ok, b_err, o_next, o_ret, o_brk, o_cont, o_err, noErr_o, fzs_of, binD_int, binI_add, binI_sub, binI_mul, binI_mod, binI_fdiv, binI_pow, kTup_of, kLst_of, kCall_of, kMake_of, mkD_ok, mkD_err, kAnd_tt, kAnd_tf, kAnd_ft, kAnd_ff, kIte_t, kIte_f, kNot_bl, sIte_t, sIte_f, sIte_ot, sIte_of, kNeg_int, kIsi_eq, kIsi_eqX, isiR_some, cmp_lt, cmp_le, cmp_gt, cmp_ge, cmp_eq_int, cmp_ne_int, cmp_eq_bl, cmp_ne_bl, bt_abs, bt_int, bt_int_bl, bt_tuple_tup, fin_ret, fin_next, fin_err, sSet_of, sSetO_of, sSetL_of, sPar2_of, sItem3_of, stOw_own, sAppO_of, sItemO2_of, sItemO_eq, retOw_own, ownC_own, stO_some, stL_some, sApp2_of, appD_of, frzD_own, sRaise_of, sFor_fix, forF_nil, forF_cons, forK_next, forK_cont, forK_brk, forK_ret, forK_err, bindT_nm, lcF_nil, lcF_cons, lcAcc_some, lcAcc_none, lcEnd_of, kSeq_loc, dynD_lst, kRng1_of, kSl_def, kSl2_def, List.map_cons, List.map_nil, List.cons_append, List.nil_append, List.length_cons, List.length_nil, List.replicate, List.getElem?_cons_zero, List.getElem?_cons_succ, List.set_cons_zero, List.set_cons_succ, List.length_set, List.all_cons, List.all_nil, Bool.and_true, Bool.and_self, Bool.not_true, Bool.not_false, if_true, if_false, Nat.reduceAdd, Nat.reduceSub, Nat.reduceLT, Nat.reduceEqDiff, decide_true, decide_false, Int.reduceNeg, evE_0, evE_1, evE_2, evE_3, evE_4, evE_5, evE_6, evE_7, evE_8, evE_9, evE_10, evE_11, evE_12, evE_13, evE_14, evE_15, evE_16, evE_17, evE_18, evE_19, evE_20, evE_21, evE_22, evE_23, evE_24, evE_25, evE_26, evEs_0, evEs_1, evAnd_0, evAnd_1, evAnd_2, evI_0, evI_1, evI_2, evI_3, evI_4, evI_5, kRev_lst, kRev_new, kEnum_tup, kEnum_lst, kEnum_new, enumD4, evS_0, evS_1, evS_2, evS_3, evS_4, evS_5, evS_6, evS_7, evS_8, evS_9, evS_10, evS_11, evS_12, evS_13, evS_14, evS_15, evS_16, evS_17, evS_18, evS_19, hasX_nil, hasX_emp, hasX_val, hasX_own, nxC_of, clrE_none, clrE_some, clr_next, clr_brk, clr_cont, clr_ret, hdlE_none, hdlE_some, varD_exc, evS_20, evS_21, evS_22, evB_0, evB_1, evB_2, kBin_eq, kCmp_eq, kChain_eq, kChainB_eq, kCons_eq, kCons2_eq, kIx_eq, kMeth_eq, kMeth1_eq, sPar_eq, sAttr_eq, sItem_eq, sItem2_eq, sApp_loc, sAppC_lst, sExpr_eq, sRet_of, forStep_eq, lcStep_eq, kRng2_eq, kZip_eq, forB_some, lcIn_some, lcTest_t, lcTest_f, wipeE_nil, wipeE_cons, setAll_nil, setAll_cons, bindT_tp, bindT_tpn, bindT_tpl, sSetT_tup, sSetT_new, sSetT_lst, nextO_some, kInt_int, kTest_bl, kChainC_t, kChainC_f, CE.isNul, optI_t, optI_f, tstC_t, tstC_f, ne_eq, not_false_eq_true, kSeq_tup, kSeq_lst, kSeq_new, kSeq_scr, kSeq_own, ixD_eq, ixS_some, ixR_some, seqOf_locq, seqC_lst, ln_tup, ln_lst, ln_new, ln_own, ln_scr, ln_loc, lenR_some, bt_listq, listR_some, storD_locq, storC_lst, putD_eq, attr_objq, attr_exnq, attr_locq, attrC_ins, fldR_some, setaD_loc, setaC_ins, setaF_some, kComp_fix, kComp_ow, kMeth2_still, kNot_q, notR_some, sl_scr, sl_lst, sl_new, sl_own, cmp_own_l, cmp_own_r, eqK_some, kNeg_q, negK_some, Option.isSome_some, eq_self, beq_self_eq_true,  cmp_eq_str, cmpOk_obj, isi_obj_ty, isi_obj_own, isi_exn_own, isi_exn_ve, L2.atI, L2.ixN, Option.bind_some, Option.map_some, Int.reduceToNat, still_scr, fz_scr, binD_oo, binD_oi, binD_io, binL_obj, binL_int, binRt_some, rOk_add, rOk_sub, rOk_mul, whT_t, whT_f, whK_next, whK_cont, whK_brk, whK_ret, cmp_isn_non, cmp_isb, cmp_isnb, kBl_bl, sAttr2_of, nextS_some, sTry_next, sTry_ret, u_sTry_err, hasX_exc, isX_f1, seqOf_scr, cmp_eq_dic, isi_non_int, isi_non_bool, isi_non_str, isi_non_tuple, isi_non_list, isi_non_dict, isi_non_own, cmpOk_non, eqOf_non, isi_bl_int, isi_bl_bool, isi_bl_str, isi_bl_tuple, isi_bl_list, isi_bl_dict, isi_bl_own, cmpOk_bl, eqOf_bl, isi_int_int, isi_int_bool, isi_int_str, isi_int_tuple, isi_int_list, isi_int_dict, isi_int_own, cmpOk_int, eqOf_int, isi_str_int, isi_str_bool, isi_str_str, isi_str_tuple, isi_str_list, isi_str_dict, isi_str_own, cmpOk_str, eqOf_str, isi_tup_int, isi_tup_bool, isi_tup_str, isi_tup_tuple, isi_tup_list, isi_tup_dict, isi_tup_own, cmpOk_tup, eqOf_tup, isi_lst_int, isi_lst_bool, isi_lst_str, isi_lst_tuple, isi_lst_list, isi_lst_dict, isi_lst_own, cmpOk_lst, eqOf_lst, isi_new_int, isi_new_bool, isi_new_str, isi_new_tuple, isi_new_list, isi_new_dict, isi_new_own, cmpOk_new, eqOf_new, isi_loc_int, isi_loc_bool, isi_loc_str, isi_loc_tuple, isi_loc_list, isi_loc_dict, isi_loc_own, isi_dic_int, isi_dic_bool, isi_dic_str, isi_dic_tuple, isi_dic_list, isi_dic_dict, isi_dic_own, cmpOk_dic, eqOf_dic, leftOk_int, leftOk_bl, p_exc0, p_nf0, p_exc1, p_nf1, p_f1_6, p_exc2, p_nf2, p_f2_5, p_exc3, p_nf3, p_f3_3, p_exc4, p_nf4, p_f4_4, p_cls5, p_nf5, p_f5_0, p_f5_1, p_f5_2, p_eq5, p_op5_add, p_op5_sub, p_op5_mul, p_neg5, p_sub0_0, p_in0_0, p_sub0_1, p_in0_1, p_sub0_2, p_in0_2, p_sub0_3, p_in0_3, p_sub0_4, p_in0_4, p_sub1_0, p_in1_0, p_sub1_1, p_in1_1, p_sub1_2, p_in1_2, p_sub1_3, p_in1_3, p_sub1_4, p_in1_4, p_sub2_0, p_in2_0, p_sub2_1, p_in2_1, p_sub2_2, p_in2_2, p_sub2_3, p_in2_3, p_sub2_4, p_in2_4, p_sub3_0, p_in3_0, p_sub3_1, p_in3_1, p_sub3_2, p_in3_2, p_sub3_3, p_in3_3, p_sub3_4, p_in3_4, p_sub4_0, p_in4_0, p_sub4_1, p_in4_1, p_sub4_2, p_in4_2, p_sub4_3, p_in4_3, p_sub4_4, p_in4_4, $as,*])
abbrev Ob (t r u : Int) : D := .obj 5 [.int t, .int r, .int u]
theorem c_intO (n : Nat) (fs : List D) (S : Sto) : Tk.call P (n+1) 0 [.obj 5 fs] S = .ok (.bl false) S := by
  simpa?! [r0, b0]
section
variable {t r u t2 r2 u2 i : Int} {m : Nat} [Bnd t m] [Bnd r m] [Bnd u m] [Bnd t2 m] [Bnd r2 m] [Bnd u2 m] [Bnd i m]
theorem c_add (n : Nat) (hm : m < 3000) (hu : u * u2 ≠ 0) (S : Sto) : Tk.call P (n+3) 6 [Ob t r u, Ob t2 r2 u2] S = .ok (rt (t * u2 + t2 * u) (r * u2 + r2 * u) (u * u2)) S := by
  have h1 : m + m < 100000000 := by omega
  have h2 : m + m < 8000 := by omega
  simpa?! [r6, b6, c_intO, c_init, h1, h2, hu, rt]
theorem c_addI (n : Nat) (hm : m < 3000) (hu : u ≠ 0) (S : Sto) : Tk.call P (n+3) 6 [Ob t r u, .int i] S = .ok (rt (t + i * u) r u) S := by
  have h1 : m + m < 100000000 := by omega
  have h2 : m < 8000 := by omega
  simpa?! [r6, b6, c_int, c_init, h1, h2, hu, rt]
theorem c_radd (n : Nat) (hm : m < 3000) (hu : u ≠ 0) (S : Sto) : Tk.call P (n+4) 7 [Ob t r u, .int i] S = .ok (rt (t + i * u) r u) S := by
  simpa?! [r7, b7, c_int, c_addI, hm, hu, rt]
theorem c_sub (n : Nat) (hm : m < 3000) (hu : u * u2 ≠ 0) (S : Sto) : Tk.call P (n+3) 8 [Ob t r u, Ob t2 r2 u2] S = .ok (rt (t * u2 - t2 * u) (r * u2 - r2 * u) (u * u2)) S := by
  have h1 : m + m < 100000000 := by omega
  have h2 : m + m < 8000 := by omega
  simpa?! [r8, b8, c_intO, c_init, h1, h2, hu, rt]
theorem c_subI (n : Nat) (hm : m < 3000) (hu : u ≠ 0) (S : Sto) : Tk.call P (n+3) 8 [Ob t r u, .int i] S = .ok (rt (t - i * u) r u) S := by
  have h1 : m + m < 100000000 := by omega
  have h2 : m < 8000 := by omega
  simpa?! [r8, b8, c_int, c_init, h1, h2, hu, rt]
theorem c_rsub (n : Nat) (hm : m < 3000) (hu : u ≠ 0) (S : Sto) : Tk.call P (n+3) 9 [Ob t r u, .int i] S = .ok (rt (i * u - t) (-r) u) S := by
  have h1 : m + m < 100000000 := by omega
  have h2 : m < 8000 := by omega
  simpa?! [r9, b9, c_int, c_init, h1, h2, hu, rt]
theorem c_mul (n : Nat) (hm : m < 3000) (hu : u * u2 ≠ 0) (S : Sto) : Tk.call P (n+3) 10 [Ob t r u, Ob t2 r2 u2] S = .ok (rt (t * t2 + 2 * r * r2) (t * r2 + r * t2) (u * u2)) S := by
  have h1 : m + m < 100000000 := by omega
  have h2 : m + m < 8000 := by omega
  have h3 : Nat.log2 2 + 1 + m < 100000000 := by rw [show Nat.log2 2 = 1 from by decide]; omega
  have h4 : Nat.log2 2 + 1 + m + m < 100000000 := by rw [show Nat.log2 2 = 1 from by decide]; omega
  simpa?! [r10, b10, c_intO, c_init, h1, h2, h3, h4, hu, rt]
theorem c_mulI (n : Nat) (hm : m < 3000) (hu : u ≠ 0) (S : Sto) : Tk.call P (n+3) 10 [Ob t r u, .int i] S = .ok (rt (t * i) (r * i) u) S := by
  have h1 : m + m < 100000000 := by omega
  have h2 : m < 8000 := by omega
  simpa?! [r10, b10, c_int, c_init, h1, h2, hu, rt]
theorem c_rmul (n : Nat) (hm : m < 3000) (hu : u ≠ 0) (S : Sto) : Tk.call P (n+4) 11 [Ob t r u, .int i] S = .ok (rt (t * i) (r * i) u) S := by
  simpa?! [r11, b11, c_int, c_mulI, hm, hu, rt]
end
end Pg
set_option exponentiation.threshold 300
namespace Pg
open Tk
local macro_rules | `(tactic| simpa?! [$as,*]) => `(tactic| simp (config := { decide := true, implicitDefEqProofs := false }) only [still_non, fz_non, finD_non, still_bl, fz_bl, finD_bl, still_int, fz_int, finD_int, still_str, fz_str, finD_str, still_tup, fz_tup, finD_tup, still_lst, fz_lst, finD_lst, still_obj, fz_obj, finD_obj, still_dic0, fz_dic0, finD_dic0, still_loc, fz_loc, finD_loc, still_new, u_fz_new, finD_new, finD_own, fz_own, still_own, still_exn, nol_non, nol_bl, nol_int, nol_str, nol_dic0, nol_obj, nol_tup, nol_lst, nols_nil, nols_cons, truth_non, truth_bl, truth_int, truth_tup, seqOf_tup, itOf_tup, truth_lst, seqOf_lst, itOf_lst, isL_lst, truth_new, seqOf_new, itOf_new, isL_new, truth_own, seqOf_own, itOf_own, isL_own, itList_fix, isOw_own, isOw_non, isOw_bl, isOw_int, isOw_str, isOw_tup, isOw_obj, isOw_dic0, isOw_loc, isOw_exn, isOw_new, isOw_lst, isOw_scr, itW_t, itW_f, itList_ow, varD_val, varD_own, bind_ok, bind_err, b_ok, b_err, o_next, o_ret, o_brk, o_cont, o_err, noErr_o, fzs_of, binD_int, binI_add, binI_sub, binI_mul, binI_mod, binI_fdiv, binI_pow, kTup_of, kLst_of, kCall_of, kMake_of, mkD_ok, mkD_err, kAnd_tt, kAnd_tf, kAnd_ft, kAnd_ff, kIte_t, kIte_f, kNot_bl, sIte_t, sIte_f, sIte_ot, sIte_of, kNeg_int, kIsi_eq, kIsi_eqX, isiR_some, cmp_lt, cmp_le, cmp_gt, cmp_ge, cmp_eq_int, cmp_ne_int, cmp_eq_bl, cmp_ne_bl, bt_abs, bt_int, bt_int_bl, bt_tuple_tup, fin_ret, fin_next, fin_err, sSet_of, sSetO_of, sSetL_of, sPar2_of, sItem3_of, stOw_own, sAppO_of, sItemO2_of, sItemO_eq, retOw_own, ownC_own, stO_some, stL_some, sApp2_of, appD_of, frzD_own, sRaise_of, sFor_fix, forF_nil, forF_cons, forK_next, forK_cont, forK_brk, forK_ret, forK_err, bindT_nm, lcF_nil, lcF_cons, lcAcc_some, lcAcc_none, lcEnd_of, kSeq_loc, dynD_lst, kRng1_of, kSl_def, kSl2_def, List.map_cons, List.map_nil, List.cons_append, List.nil_append, List.length_cons, List.length_nil, List.replicate, List.getElem?_cons_zero, List.getElem?_cons_succ, List.set_cons_zero, List.set_cons_succ, List.length_set, List.all_cons, List.all_nil, Bool.and_true, Bool.and_self, Bool.not_true, Bool.not_false, if_true, if_false, Nat.reduceAdd, Nat.reduceSub, Nat.reduceLT, Nat.reduceEqDiff, decide_true, decide_false, Int.reduceNeg, evE_0, evE_1, evE_2, evE_3, evE_4, evE_5, evE_6, evE_7, evE_8, evE_9, evE_10, evE_11, evE_12, evE_13, evE_14, evE_15, evE_16, evE_17, evE_18, evE_19, evE_20, evE_21, evE_22, evE_23, evE_24, evE_25, evE_26, evEs_0, evEs_1, evAnd_0, evAnd_1, evAnd_2, evI_0, evI_1, evI_2, evI_3, evI_4, evI_5, kRev_lst, kRev_new, kEnum_tup, kEnum_lst, kEnum_new, enumD4, evS_0, evS_1, evS_2, evS_3, evS_4, evS_5, evS_6, evS_7, evS_8, evS_9, evS_10, evS_11, evS_12, evS_13, evS_14, evS_15, evS_16, evS_17, evS_18, evS_19, hasX_nil, hasX_emp, hasX_val, hasX_own, nxC_of, clrE_none, clrE_some, clr_next, clr_brk, clr_cont, clr_ret, hdlE_none, hdlE_some, varD_exc, evS_20, evS_21, evS_22, evB_0, evB_1, evB_2, kBin_eq, kCmp_eq, kChain_eq, kChainB_eq, kCons_eq, kCons2_eq, kIx_eq, kMeth_eq, kMeth1_eq, sPar_eq, sAttr_eq, sItem_eq, sItem2_eq, sApp_loc, sAppC_lst, sExpr_eq, sRet_of, forStep_eq, lcStep_eq, kRng2_eq, kZip_eq, forB_some, lcIn_some, lcTest_t, lcTest_f, wipeE_nil, wipeE_cons, setAll_nil, setAll_cons, bindT_tp, bindT_tpn, bindT_tpl, sSetT_tup, sSetT_new, sSetT_lst, nextO_some, kInt_int, kTest_bl, kChainC_t, kChainC_f, CE.isNul, optI_t, optI_f, tstC_t, tstC_f, ne_eq, not_false_eq_true, kSeq_tup, kSeq_lst, kSeq_new, kSeq_scr, kSeq_own, ixD_eq, ixS_some, ixR_some, seqOf_locq, seqC_lst, ln_tup, ln_lst, ln_new, ln_own, ln_scr, ln_loc, lenR_some, bt_listq, listR_some, storD_locq, storC_lst, putD_eq, attr_objq, attr_exnq, attr_locq, attrC_ins, fldR_some, setaD_loc, setaC_ins, setaF_some, kComp_fix, kComp_ow, kMeth2_still, kNot_q, notR_some, sl_scr, sl_lst, sl_new, sl_own, cmp_own_l, cmp_own_r, eqK_some, kNeg_q, negK_some, Option.isSome_some, eq_self, beq_self_eq_true,  cmp_eq_str, cmpOk_obj, isi_obj_ty, isi_obj_own, isi_exn_own, isi_exn_ve, L2.atI, L2.ixN, Option.bind_some, Option.map_some, Int.reduceToNat, still_scr, fz_scr, binD_oo, binD_oi, binD_io, binL_obj, binL_int, binRt_some, rOk_add, rOk_sub, rOk_mul, whT_t, whT_f, whK_next, whK_cont, whK_brk, whK_ret, cmp_isn_non, cmp_isb, cmp_isnb, kBl_bl, sAttr2_of, nextS_some, sTry_next, sTry_ret, u_sTry_err, hasX_exc, isX_f1, seqOf_scr, cmp_eq_dic, isi_non_int, isi_non_bool, isi_non_str, isi_non_tuple, isi_non_list, isi_non_dict, isi_non_own, cmpOk_non, eqOf_non, isi_bl_int, isi_bl_bool, isi_bl_str, isi_bl_tuple, isi_bl_list, isi_bl_dict, isi_bl_own, cmpOk_bl, eqOf_bl, isi_int_int, isi_int_bool, isi_int_str, isi_int_tuple, isi_int_list, isi_int_dict, isi_int_own, cmpOk_int, eqOf_int, isi_str_int, isi_str_bool, isi_str_str, isi_str_tuple, isi_str_list, isi_str_dict, isi_str_own, cmpOk_str, eqOf_str, isi_tup_int, isi_tup_bool, isi_tup_str, isi_tup_tuple, isi_tup_list, isi_tup_dict, isi_tup_own, cmpOk_tup, eqOf_tup, isi_lst_int, isi_lst_bool, isi_lst_str, isi_lst_tuple, isi_lst_list, isi_lst_dict, isi_lst_own, cmpOk_lst, eqOf_lst, isi_new_int, isi_new_bool, isi_new_str, isi_new_tuple, isi_new_list, isi_new_dict, isi_new_own, cmpOk_new, eqOf_new, isi_loc_int, isi_loc_bool, isi_loc_str, isi_loc_tuple, isi_loc_list, isi_loc_dict, isi_loc_own, isi_dic_int, isi_dic_bool, isi_dic_str, isi_dic_tuple, isi_dic_list, isi_dic_dict, isi_dic_own, cmpOk_dic, eqOf_dic, leftOk_int, leftOk_bl, p_exc0, p_nf0, p_exc1, p_nf1, p_f1_6, p_exc2, p_nf2, p_f2_5, p_exc3, p_nf3, p_f3_3, p_exc4, p_nf4, p_f4_4, p_cls5, p_nf5, p_f5_0, p_f5_1, p_f5_2, p_eq5, p_op5_add, p_op5_sub, p_op5_mul, p_neg5, p_sub0_0, p_in0_0, p_sub0_1, p_in0_1, p_sub0_2, p_in0_2, p_sub0_3, p_in0_3, p_sub0_4, p_in0_4, p_sub1_0, p_in1_0, p_sub1_1, p_in1_1, p_sub1_2, p_in1_2, p_sub1_3, p_in1_3, p_sub1_4, p_in1_4, p_sub2_0, p_in2_0, p_sub2_1, p_in2_1, p_sub2_2, p_in2_2, p_sub2_3, p_in2_3, p_sub2_4, p_in2_4, p_sub3_0, p_in3_0, p_sub3_1, p_in3_1, p_sub3_2, p_in3_2, p_sub3_3, p_in3_3, p_sub3_4, p_in3_4, p_sub4_0, p_in4_0, p_sub4_1, p_in4_1, p_sub4_2, p_in4_2, p_sub4_3, p_in4_3, p_sub4_4, p_in4_4, $as,*])
theorem lg2 : Nat.log2 2 = 1 := by decide
/-! ### signs -/
/-- x + y * r is below 0 -/
def Ng (x y : Int) : Prop := (x ≤ 0 ∧ y ≤ 0 ∧ ¬ (x = 0 ∧ y = 0)) ∨ (0 < x ∧ y < 0 ∧ x * x < 2 * y * y) ∨ (x < 0 ∧ 0 < y ∧ 2 * y * y < x * x)
theorem sq_ne {x y : Int} (h : x ≠ 0) : x * x ≠ 2 * y * y := fun e => h (sq_no (e.trans (Int.mul_assoc 2 y y))).1
theorem ng_mul {x y k : Int} (hk : 0 < k) : Ng (x * k) (y * k) ↔ Ng x y := by
  have a1 : ∀ z : Int, z * k ≤ 0 ↔ z ≤ 0 := fun z => ⟨fun h => by
    rcases Int.lt_or_le 0 z with w | w
    · have := Int.mul_pos w hk; omega
    · exact w, fun h => Int.mul_nonpos_of_nonpos_of_nonneg h (by omega)⟩
  have a2 : ∀ z : Int, z * k = 0 ↔ z = 0 := fun z => ⟨fun h => by rcases Int.mul_eq_zero.mp h with w | w <;> omega, fun h => by rw [h, Int.zero_mul]⟩
  have a3 : ∀ z : Int, 0 < z * k ↔ 0 < z := fun z => by have := a1 z; omega
  have a4 : ∀ z : Int, z * k < 0 ↔ z < 0 := fun z => by have := a1 z; have := a2 z; omega
  have hk2 : 0 < k * k := Int.mul_pos hk hk
  have b1 : x * k * (x * k) = (x * x) * (k * k) := by grind
  have b2 : 2 * (y * k) * (y * k) = (2 * y * y) * (k * k) := by grind
  have c1 : ∀ A B : Int, A * (k * k) < B * (k * k) ↔ A < B := fun A B => ⟨fun h => Int.lt_of_mul_lt_mul_right h (by omega), fun h => Int.mul_lt_mul_of_pos_right h hk2⟩
  unfold Ng
  rw [a1, a1, a2, a2, a3, a4, a4, a3, b1, b2, c1, c1]
/-! ### is_number, as_root -/
theorem c_isnO (n : Nat) (fs : List D) (S : Sto) : Tk.call P (n+2) 13 [.obj 5 fs] S = .ok (.bl true) S := by
  simpa?! [r13, b13]
theorem c_isnI (n : Nat) (i : Int) (S : Sto) : Tk.call P (n+2) 13 [.int i] S = .ok (.bl true) S := by
  simpa?! [r13, b13, c_int]
theorem c_asO (n : Nat) (fs : List D) (S : Sto) : Tk.call P (n+3) 14 [.obj 5 fs] S = .ok (.obj 5 fs) S := by
  simpa?! [r14, b14]
theorem num_int (i : Int) : Num i 0 1 i 0 1 1 := ⟨by omega, by omega, by omega, by omega, by omega, by simp⟩
theorem c_asI (n : Nat) (i : Int) (S : Sto) : Tk.call P (n+3) 14 [.int i] S = .ok (Ob i 0 1) S := by
  obtain ⟨f1, f2, f3⟩ := num_fd (num_int i)
  simpa?! [r14, b14, c_init, f1, f2, f3]
end Pg
set_option exponentiation.threshold 300
namespace Pg
open Tk
local macro_rules | `(tactic| simpa?! [$as,*]) => `(tactic| simp (config := { decide := true, implicitDefEqProofs := false }) only [still_non, fz_non, finD_non, still_bl, fz_bl, finD_bl, still_int, fz_int, finD_int, still_str, fz_str, finD_str, still_tup, fz_tup, finD_tup, still_lst, fz_lst, finD_lst, still_obj, fz_obj, finD_obj, still_dic0, fz_dic0, finD_dic0, still_loc, fz_loc, finD_loc, still_new, u_fz_new, finD_new, finD_own, fz_own, still_own, still_exn, nol_non, nol_bl, nol_int, nol_str, nol_dic0, nol_obj, nol_tup, nol_lst, nols_nil, nols_cons, truth_non, truth_bl, truth_int, truth_tup, seqOf_tup, itOf_tup, truth_lst, seqOf_lst, itOf_lst, isL_lst, truth_new, seqOf_new, itOf_new, isL_new, truth_own, seqOf_own, itOf_own, isL_own, itList_fix, isOw_own, isOw_non, isOw_bl, isOw_int, isOw_str, isOw_tup, isOw_obj, isOw_dic0, isOw_loc, isOw_exn, isOw_new, isOw_lst, isOw_scr, itW_t, itW_f, itList_ow, varD_val, varD_own, bind_ok, bind_err, b_ok, b_err, o_next, o_ret, o_brk, o_cont, o_err, noErr_o, fzs_of, binD_int, binI_add, binI_sub, binI_mul, binI_mod, binI_fdiv, binI_pow, kTup_of, kLst_of, kCall_of, kMake_of, mkD_ok, mkD_err, kAnd_tt, kAnd_tf, kAnd_ft, kAnd_ff, kIte_t, kIte_f, kNot_bl, sIte_t, sIte_f, sIte_ot, sIte_of, kNeg_int, kIsi_eq, kIsi_eqX, isiR_some, cmp_lt, cmp_le, cmp_gt, cmp_ge, cmp_eq_int, cmp_ne_int, cmp_eq_bl, cmp_ne_bl, bt_abs, bt_int, bt_int_bl, bt_tuple_tup, fin_ret, fin_next, fin_err, sSet_of, sSetO_of, sSetL_of, sPar2_of, sItem3_of, stOw_own, sAppO_of, sItemO2_of, sItemO_eq, retOw_own, ownC_own, stO_some, stL_some, sApp2_of, appD_of, frzD_own, sRaise_of, sFor_fix, forF_nil, forF_cons, forK_next, forK_cont, forK_brk, forK_ret, forK_err, bindT_nm, lcF_nil, lcF_cons, lcAcc_some, lcAcc_none, lcEnd_of, kSeq_loc, dynD_lst, kRng1_of, kSl_def, kSl2_def, List.map_cons, List.map_nil, List.cons_append, List.nil_append, List.length_cons, List.length_nil, List.replicate, List.getElem?_cons_zero, List.getElem?_cons_succ, List.set_cons_zero, List.set_cons_succ, List.length_set, List.all_cons, List.all_nil, Bool.and_true, Bool.and_self, Bool.not_true, Bool.not_false, if_true, if_false, Nat.reduceAdd, Nat.reduceSub, Nat.reduceLT, Nat.reduceEqDiff, decide_true, decide_false, Int.reduceNeg, evE_0, evE_1, evE_2, evE_3, evE_4, evE_5, evE_6, evE_7, evE_8, evE_9, evE_10, evE_11, evE_12, evE_13, evE_14, evE_15, evE_16, evE_17, evE_18, evE_19, evE_20, evE_21, evE_22, evE_23, evE_24, evE_25, evE_26, evEs_0, evEs_1, evAnd_0, evAnd_1, evAnd_2, evI_0, evI_1, evI_2, evI_3, evI_4, evI_5, kRev_lst, kRev_new, kEnum_tup, kEnum_lst, kEnum_new, enumD4, evS_0, evS_1, evS_2, evS_3, evS_4, evS_5, evS_6, evS_7, evS_8, evS_9, evS_10, evS_11, evS_12, evS_13, evS_14, evS_15, evS_16, evS_17, evS_18, evS_19, hasX_nil, hasX_emp, hasX_val, hasX_own, nxC_of, clrE_none, clrE_some, clr_next, clr_brk, clr_cont, clr_ret, hdlE_none, hdlE_some, varD_exc, evS_20, evS_21, evS_22, evB_0, evB_1, evB_2, kBin_eq, kCmp_eq, kChain_eq, kChainB_eq, kCons_eq, kCons2_eq, kIx_eq, kMeth_eq, kMeth1_eq, sPar_eq, sAttr_eq, sItem_eq, sItem2_eq, sApp_loc, sAppC_lst, sExpr_eq, sRet_of, forStep_eq, lcStep_eq, kRng2_eq, kZip_eq, forB_some, lcIn_some, lcTest_t, lcTest_f, wipeE_nil, wipeE_cons, setAll_nil, setAll_cons, bindT_tp, bindT_tpn, bindT_tpl, sSetT_tup, sSetT_new, sSetT_lst, nextO_some, kInt_int, kTest_bl, kChainC_t, kChainC_f, CE.isNul, optI_t, optI_f, tstC_t, tstC_f, ne_eq, not_false_eq_true, kSeq_tup, kSeq_lst, kSeq_new, kSeq_scr, kSeq_own, ixD_eq, ixS_some, ixR_some, seqOf_locq, seqC_lst, ln_tup, ln_lst, ln_new, ln_own, ln_scr, ln_loc, lenR_some, bt_listq, listR_some, storD_locq, storC_lst, putD_eq, attr_objq, attr_exnq, attr_locq, attrC_ins, fldR_some, setaD_loc, setaC_ins, setaF_some, kComp_fix, kComp_ow, kMeth2_still, kNot_q, notR_some, sl_scr, sl_lst, sl_new, sl_own, cmp_own_l, cmp_own_r, eqK_some, kNeg_q, negK_some, Option.isSome_some, eq_self, beq_self_eq_true,  cmp_eq_str, cmpOk_obj, isi_obj_ty, isi_obj_own, isi_exn_own, isi_exn_ve, L2.atI, L2.ixN, Option.bind_some, Option.map_some, Int.reduceToNat, still_scr, fz_scr, binD_oo, binD_oi, binD_io, binL_obj, binL_int, binRt_some, rOk_add, rOk_sub, rOk_mul, whT_t, whT_f, whK_next, whK_cont, whK_brk, whK_ret, cmp_isn_non, cmp_isb, cmp_isnb, kBl_bl, sAttr2_of, nextS_some, sTry_next, sTry_ret, u_sTry_err, hasX_exc, isX_f1, seqOf_scr, cmp_eq_dic, isi_non_int, isi_non_bool, isi_non_str, isi_non_tuple, isi_non_list, isi_non_dict, isi_non_own, cmpOk_non, eqOf_non, isi_bl_int, isi_bl_bool, isi_bl_str, isi_bl_tuple, isi_bl_list, isi_bl_dict, isi_bl_own, cmpOk_bl, eqOf_bl, isi_int_int, isi_int_bool, isi_int_str, isi_int_tuple, isi_int_list, isi_int_dict, isi_int_own, cmpOk_int, eqOf_int, isi_str_int, isi_str_bool, isi_str_str, isi_str_tuple, isi_str_list, isi_str_dict, isi_str_own, cmpOk_str, eqOf_str, isi_tup_int, isi_tup_bool, isi_tup_str, isi_tup_tuple, isi_tup_list, isi_tup_dict, isi_tup_own, cmpOk_tup, eqOf_tup, isi_lst_int, isi_lst_bool, isi_lst_str, isi_lst_tuple, isi_lst_list, isi_lst_dict, isi_lst_own, cmpOk_lst, eqOf_lst, isi_new_int, isi_new_bool, isi_new_str, isi_new_tuple, isi_new_list, isi_new_dict, isi_new_own, cmpOk_new, eqOf_new, isi_loc_int, isi_loc_bool, isi_loc_str, isi_loc_tuple, isi_loc_list, isi_loc_dict, isi_loc_own, isi_dic_int, isi_dic_bool, isi_dic_str, isi_dic_tuple, isi_dic_list, isi_dic_dict, isi_dic_own, cmpOk_dic, eqOf_dic, leftOk_int, leftOk_bl, p_exc0, p_nf0, p_exc1, p_nf1, p_f1_6, p_exc2, p_nf2, p_f2_5, p_exc3, p_nf3, p_f3_3, p_exc4, p_nf4, p_f4_4, p_cls5, p_nf5, p_f5_0, p_f5_1, p_f5_2, p_eq5, p_op5_add, p_op5_sub, p_op5_mul, p_neg5, p_sub0_0, p_in0_0, p_sub0_1, p_in0_1, p_sub0_2, p_in0_2, p_sub0_3, p_in0_3, p_sub0_4, p_in0_4, p_sub1_0, p_in1_0, p_sub1_1, p_in1_1, p_sub1_2, p_in1_2, p_sub1_3, p_in1_3, p_sub1_4, p_in1_4, p_sub2_0, p_in2_0, p_sub2_1, p_in2_1, p_sub2_2, p_in2_2, p_sub2_3, p_in2_3, p_sub2_4, p_in2_4, p_sub3_0, p_in3_0, p_sub3_1, p_in3_1, p_sub3_2, p_in3_2, p_sub3_3, p_in3_3, p_sub3_4, p_in3_4, p_sub4_0, p_in4_0, p_sub4_1, p_in4_1, p_sub4_2, p_in4_2, p_sub4_3, p_in4_3, p_sub4_4, p_in4_4, $as,*])
/-- a number as a Root or as an integer -/
def Rp (x : D) (t r u : Int) : Prop := x = Ob t r u ∨ (x = .int t ∧ r = 0 ∧ u = 1)
theorem rp_still {x : D} {t r u : Int} (h : Rp x t r u) : still x = true ∧ fz x = x ∧ nol x = true := by
  rcases h with rfl | ⟨rfl, _, _⟩ <;> exact ⟨rfl, rfl, rfl⟩
section
variable {t r u t2 r2 u2 : Int} {m : Nat} [Bnd t m] [Bnd r m] [Bnd u m] [Bnd t2 m] [Bnd r2 m] [Bnd u2 m] {x y : D}
theorem x_add (n : Nat) (hm : m < 3000) (hx : Rp x t r u) (hy : Rp y t2 r2 u2) (hu : 0 < u) (hu2 : 0 < u2) (hn : (∃ a b c, x = Ob a b c) ∨ ∃ a b c, y = Ob a b c) (S : Sto) :
    binD P (Tk.call P (n+4)) .add x y S = .ok (rt (t * u2 + t2 * u) (r * u2 + r2 * u) (u * u2)) S := by
  have h0 : u ≠ 0 := by omega
  have h1 : u2 ≠ 0 := by omega
  rcases hx with rfl | ⟨rfl, rfl, rfl⟩
  · rcases hy with rfl | ⟨rfl, rfl, rfl⟩
    · simpa?! [c_add (n+1) hm (Int.mul_ne_zero h0 h1) S]
    · simpa?! [c_addI (n+1) hm h0 S, Int.mul_one, Int.zero_mul, Int.add_zero]
  · rcases hy with rfl | ⟨rfl, rfl, rfl⟩
    · simpa?! [c_radd n hm h1 S, Int.mul_one, Int.one_mul, Int.zero_mul, Int.zero_add]
      rw [Int.add_comm]
    · rcases hn with ⟨_, _, _, z⟩ | ⟨_, _, _, z⟩ <;> cases z
theorem x_sub (n : Nat) (hm : m < 3000) (hx : Rp x t r u) (hy : Rp y t2 r2 u2) (hu : 0 < u) (hu2 : 0 < u2) (hn : (∃ a b c, x = Ob a b c) ∨ ∃ a b c, y = Ob a b c) (S : Sto) :
    binD P (Tk.call P (n+4)) .sub x y S = .ok (rt (t * u2 - t2 * u) (r * u2 - r2 * u) (u * u2)) S := by
  have h0 : u ≠ 0 := by omega
  have h1 : u2 ≠ 0 := by omega
  rcases hx with rfl | ⟨rfl, rfl, rfl⟩
  · rcases hy with rfl | ⟨rfl, rfl, rfl⟩
    · simpa?! [c_sub (n+1) hm (Int.mul_ne_zero h0 h1) S]
    · simpa?! [c_subI (n+1) hm h0 S, Int.mul_one, Int.zero_mul, Int.sub_zero]
  · rcases hy with rfl | ⟨rfl, rfl, rfl⟩
    · simpa?! [c_rsub (n+1) hm h1 S, Int.mul_one, Int.one_mul, Int.zero_mul, Int.zero_sub]
    · rcases hn with ⟨_, _, _, z⟩ | ⟨_, _, _, z⟩ <;> cases z
theorem x_mul (n : Nat) (hm : m < 3000) (hx : Rp x t r u) (hy : Rp y t2 r2 u2) (hu : 0 < u) (hu2 : 0 < u2) (hn : (∃ a b c, x = Ob a b c) ∨ ∃ a b c, y = Ob a b c) (S : Sto) :
    binD P (Tk.call P (n+4)) .mul x y S = .ok (rt (t * t2 + 2 * r * r2) (t * r2 + r * t2) (u * u2)) S := by
  have h0 : u ≠ 0 := by omega
  have h1 : u2 ≠ 0 := by omega
  rcases hx with rfl | ⟨rfl, rfl, rfl⟩
  · rcases hy with rfl | ⟨rfl, rfl, rfl⟩
    · simpa?! [c_mul (n+1) hm (Int.mul_ne_zero h0 h1) S]
    · simpa?! [c_mulI (n+1) hm h0 S, Int.mul_one, Int.mul_zero, Int.zero_add, Int.add_zero]
  · rcases hy with rfl | ⟨rfl, rfl, rfl⟩
    · simpa?! [c_rmul n hm h1 S, Int.mul_one, Int.one_mul, Int.mul_zero, Int.zero_mul, Int.zero_add, Int.add_zero]
      rw [Int.mul_comm t2, Int.mul_comm r2]
    · rcases hn with ⟨_, _, _, z⟩ | ⟨_, _, _, z⟩ <;> cases z
end
end Pg
set_option exponentiation.threshold 300
namespace Pg
open Tk
local macro_rules | `(tactic| simpa?! [$as,*]) => `(tactic| simp (config := { decide := true, implicitDefEqProofs := false }) only [still_non, fz_non, finD_non, still_bl, fz_bl, finD_bl, still_int, fz_int, finD_int, still_str, fz_str, finD_str, still_tup, fz_tup, finD_tup, still_lst, fz_lst, finD_lst, still_obj, fz_obj, finD_obj, still_dic0, fz_dic0, finD_dic0, still_loc, fz_loc, finD_loc, still_new, u_fz_new, finD_new, finD_own, fz_own, still_own, still_exn, nol_non, nol_bl, nol_int, nol_str, nol_dic0, nol_obj, nol_tup, nol_lst, nols_nil, nols_cons, truth_non, truth_bl, truth_int, truth_tup, seqOf_tup, itOf_tup, truth_lst, seqOf_lst, itOf_lst, isL_lst, truth_new, seqOf_new, itOf_new, isL_new, truth_own, seqOf_own, itOf_own, isL_own, itList_fix, isOw_own, isOw_non, isOw_bl, isOw_int, isOw_str, isOw_tup, isOw_obj, isOw_dic0, isOw_loc, isOw_exn, isOw_new, isOw_lst, isOw_scr, itW_t, itW_f, itList_ow, varD_val, varD_own, bind_ok, bind_err, b_ok, b_err, o_next, o_ret, o_brk, o_cont, o_err, noErr_o, fzs_of, binD_int, binI_add, binI_sub, binI_mul, binI_mod, binI_fdiv, binI_pow, kTup_of, kLst_of, kCall_of, kMake_of, mkD_ok, mkD_err, kAnd_tt, kAnd_tf, kAnd_ft, kAnd_ff, kIte_t, kIte_f, kNot_bl, sIte_t, sIte_f, sIte_ot, sIte_of, kNeg_int, kIsi_eq, kIsi_eqX, isiR_some, cmp_lt, cmp_le, cmp_gt, cmp_ge, cmp_eq_int, cmp_ne_int, cmp_eq_bl, cmp_ne_bl, bt_abs, bt_int, bt_int_bl, bt_tuple_tup, fin_ret, fin_next, fin_err, sSet_of, sSetO_of, sSetL_of, sPar2_of, sItem3_of, stOw_own, sAppO_of, sItemO2_of, sItemO_eq, retOw_own, ownC_own, stO_some, stL_some, sApp2_of, appD_of, frzD_own, sRaise_of, sFor_fix, forF_nil, forF_cons, forK_next, forK_cont, forK_brk, forK_ret, forK_err, bindT_nm, lcF_nil, lcF_cons, lcAcc_some, lcAcc_none, lcEnd_of, kSeq_loc, dynD_lst, kRng1_of, kSl_def, kSl2_def, List.map_cons, List.map_nil, List.cons_append, List.nil_append, List.length_cons, List.length_nil, List.replicate, List.getElem?_cons_zero, List.getElem?_cons_succ, List.set_cons_zero, List.set_cons_succ, List.length_set, List.all_cons, List.all_nil, Bool.and_true, Bool.and_self, Bool.not_true, Bool.not_false, if_true, if_false, Nat.reduceAdd, Nat.reduceSub, Nat.reduceLT, Nat.reduceEqDiff, decide_true, decide_false, Int.reduceNeg, evE_0, evE_1, evE_2, evE_3, evE_4, evE_5, evE_6, evE_7, evE_8, evE_9, evE_10, evE_11, evE_12, evE_13, evE_14, evE_15, evE_16, evE_17, evE_18, evE_19, evE_20, evE_21, evE_22, evE_23, evE_24, evE_25, evE_26, evEs_0, evEs_1, evAnd_0, evAnd_1, evAnd_2, evI_0, evI_1, evI_2, evI_3, evI_4, evI_5, kRev_lst, kRev_new, kEnum_tup, kEnum_lst, kEnum_new, enumD4, evS_0, evS_1, evS_2, evS_3, evS_4, evS_5, evS_6, evS_7, evS_8, evS_9, evS_10, evS_11, evS_12, evS_13, evS_14, evS_15, evS_16, evS_17, evS_18, evS_19, hasX_nil, hasX_emp, hasX_val, hasX_own, nxC_of, clrE_none, clrE_some, clr_next, clr_brk, clr_cont, clr_ret, hdlE_none, hdlE_some, varD_exc, evS_20, evS_21, evS_22, evB_0, evB_1, evB_2, kBin_eq, kCmp_eq, kChain_eq, kChainB_eq, kCons_eq, kCons2_eq, kIx_eq, kMeth_eq, kMeth1_eq, sPar_eq, sAttr_eq, sItem_eq, sItem2_eq, sApp_loc, sAppC_lst, sExpr_eq, sRet_of, forStep_eq, lcStep_eq, kRng2_eq, kZip_eq, forB_some, lcIn_some, lcTest_t, lcTest_f, wipeE_nil, wipeE_cons, setAll_nil, setAll_cons, bindT_tp, bindT_tpn, bindT_tpl, sSetT_tup, sSetT_new, sSetT_lst, nextO_some, kInt_int, kTest_bl, kChainC_t, kChainC_f, CE.isNul, optI_t, optI_f, tstC_t, tstC_f, ne_eq, not_false_eq_true, kSeq_tup, kSeq_lst, kSeq_new, kSeq_scr, kSeq_own, ixD_eq, ixS_some, ixR_some, seqOf_locq, seqC_lst, ln_tup, ln_lst, ln_new, ln_own, ln_scr, ln_loc, lenR_some, bt_listq, listR_some, storD_locq, storC_lst, putD_eq, attr_objq, attr_exnq, attr_locq, attrC_ins, fldR_some, setaD_loc, setaC_ins, setaF_some, kComp_fix, kComp_ow, kMeth2_still, kNot_q, notR_some, sl_scr, sl_lst, sl_new, sl_own, cmp_own_l, cmp_own_r, eqK_some, kNeg_q, negK_some, Option.isSome_some, eq_self, beq_self_eq_true,  cmp_eq_str, cmpOk_obj, isi_obj_ty, isi_obj_own, isi_exn_own, isi_exn_ve, L2.atI, L2.ixN, Option.bind_some, Option.map_some, Int.reduceToNat, still_scr, fz_scr, binD_oo, binD_oi, binD_io, binL_obj, binL_int, binRt_some, rOk_add, rOk_sub, rOk_mul, whT_t, whT_f, whK_next, whK_cont, whK_brk, whK_ret, cmp_isn_non, cmp_isb, cmp_isnb, kBl_bl, sAttr2_of, nextS_some, sTry_next, sTry_ret, u_sTry_err, hasX_exc, isX_f1, seqOf_scr, cmp_eq_dic, isi_non_int, isi_non_bool, isi_non_str, isi_non_tuple, isi_non_list, isi_non_dict, isi_non_own, cmpOk_non, eqOf_non, isi_bl_int, isi_bl_bool, isi_bl_str, isi_bl_tuple, isi_bl_list, isi_bl_dict, isi_bl_own, cmpOk_bl, eqOf_bl, isi_int_int, isi_int_bool, isi_int_str, isi_int_tuple, isi_int_list, isi_int_dict, isi_int_own, cmpOk_int, eqOf_int, isi_str_int, isi_str_bool, isi_str_str, isi_str_tuple, isi_str_list, isi_str_dict, isi_str_own, cmpOk_str, eqOf_str, isi_tup_int, isi_tup_bool, isi_tup_str, isi_tup_tuple, isi_tup_list, isi_tup_dict, isi_tup_own, cmpOk_tup, eqOf_tup, isi_lst_int, isi_lst_bool, isi_lst_str, isi_lst_tuple, isi_lst_list, isi_lst_dict, isi_lst_own, cmpOk_lst, eqOf_lst, isi_new_int, isi_new_bool, isi_new_str, isi_new_tuple, isi_new_list, isi_new_dict, isi_new_own, cmpOk_new, eqOf_new, isi_loc_int, isi_loc_bool, isi_loc_str, isi_loc_tuple, isi_loc_list, isi_loc_dict, isi_loc_own, isi_dic_int, isi_dic_bool, isi_dic_str, isi_dic_tuple, isi_dic_list, isi_dic_dict, isi_dic_own, cmpOk_dic, eqOf_dic, leftOk_int, leftOk_bl, p_exc0, p_nf0, p_exc1, p_nf1, p_f1_6, p_exc2, p_nf2, p_f2_5, p_exc3, p_nf3, p_f3_3, p_exc4, p_nf4, p_f4_4, p_cls5, p_nf5, p_f5_0, p_f5_1, p_f5_2, p_eq5, p_op5_add, p_op5_sub, p_op5_mul, p_neg5, p_sub0_0, p_in0_0, p_sub0_1, p_in0_1, p_sub0_2, p_in0_2, p_sub0_3, p_in0_3, p_sub0_4, p_in0_4, p_sub1_0, p_in1_0, p_sub1_1, p_in1_1, p_sub1_2, p_in1_2, p_sub1_3, p_in1_3, p_sub1_4, p_in1_4, p_sub2_0, p_in2_0, p_sub2_1, p_in2_1, p_sub2_2, p_in2_2, p_sub2_3, p_in2_3, p_sub2_4, p_in2_4, p_sub3_0, p_in3_0, p_sub3_1, p_in3_1, p_sub3_2, p_in3_2, p_sub3_3, p_in3_3, p_sub3_4, p_in3_4, p_sub4_0, p_in4_0, p_sub4_1, p_in4_1, p_sub4_2, p_in4_2, p_sub4_3, p_in4_3, p_sub4_4, p_in4_4, $as,*])
section
variable {t r u t2 r2 u2 : Int} {m : Nat} [Bnd t m] [Bnd r m] [Bnd u m] [Bnd t2 m] [Bnd r2 m] [Bnd u2 m] {x y : D}
end
/-! ### the law's own numbers -/
section
variable {a b c a2 b2 c2 : Int} {m : Nat} [Bnd a m] [Bnd b m] [Bnd c m] [Bnd a2 m] [Bnd b2 m] [Bnd c2 m]
theorem l_plus (n : Nat) (hm : m < 1000) (S : Sto) : Tk.call P (n+1) 38 [.tup [.int a, .int b, .int c], .tup [.int a2, .int b2, .int c2]] S = .ok (.tup [.int (a * c2 + a2 * c), .int (b * c2 + b2 * c), .int (c * c2)]) S := by
  have h1 : m + m < 100000000 := by omega
  simpa?! [r38, b38, h1]
end
theorem is_ok (n : Nat) {A B C t r u p : Int} (h : Num A B C t r u p) {m : Nat} [Bnd C m] (hm : m < 8000) (S : Sto) : Tk.call P (n+3) 41 [Ob t r u, .tup [.int A, .int B, .int C]] S = .ok (.bl true) S := by
  obtain ⟨f1, f2, f3⟩ := num_fd h
  rw [c_isr n t r u A B C hm (num_c0 h) S, f1, f2, f3]
  simp
end Pg
set_option exponentiation.threshold 300
namespace Pg
open Tk
theorem noErr_ok {α : Type} (x : α) (S : Sto) : noErr (R.ok x S) = .ok x S := rfl
/-! ### corners -/
structure Q4 where
  x0 : Int
  x1 : Int
  x2 : Int
  x3 : Int
def Q4.d (q : Q4) : D := .tup [.int q.x0, .int q.x1, .int q.x2, .int q.x3]
theorem d_still (q : Q4) : still q.d = true := rfl
theorem d_fz (q : Q4) : fz q.d = q.d := rfl
theorem d_nol (q : Q4) : nol q.d = true := rfl
theorem d_fin (q : Q4) : finD q.d = q.d := rfl
theorem d_isow (q : Q4) : isOw q.d = false := rfl
theorem bt_all4 (a b c d : Bool) (S : Sto) : btD .all [.new [.bl a, .bl b, .bl c, .bl d]] S = .ok (.bl (a && (b && (c && d)))) S := by cases a <;> cases b <;> cases c <;> cases d <;> rfl
theorem sl_tup (xs : List D) (l h : Option Int) (S : Sto) : slD (.tup xs) l h S = .ok (.tup (cutD xs l h)) S := rfl
section
variable {a b c d : D}
theorem c4_h0 : cutD [a, b, c, d] none (some 0) = [] := rfl
theorem c4_h1 : cutD [a, b, c, d] none (some 1) = [a] := rfl
theorem c4_h2 : cutD [a, b, c, d] none (some 2) = [a, b] := rfl
theorem c4_h3 : cutD [a, b, c, d] none (some 3) = [a, b, c] := rfl
theorem c4_l1 : cutD [a, b, c, d] (some 1) none = [b, c, d] := rfl
theorem c4_l2 : cutD [a, b, c, d] (some 2) none = [c, d] := rfl
theorem c4_l3 : cutD [a, b, c, d] (some 3) none = [d] := rfl
theorem c4_l4 : cutD [a, b, c, d] (some 4) none = [] := rfl
end
theorem bin_tt (cl : Cl) (xs ys : List D) (h : xs.length + ys.length ≤ 100000) (S : Sto) : binD P cl .add (.tup xs) (.tup ys) S = .ok (.tup (xs ++ ys)) S := by
  show (if xs.length + ys.length ≤ LIM then R.ok (D.tup (xs ++ ys)) S else .bad) = _
  have h : xs.length + ys.length ≤ LIM := h
  rw [if_pos h]
theorem md4_0 : Int.fmod 0 4 = 0 := rfl
theorem md4_1 : Int.fmod 1 4 = 1 := rfl
theorem md4_2 : Int.fmod 2 4 = 2 := rfl
theorem md4_3 : Int.fmod 3 4 = 3 := rfl
theorem md4_4 : Int.fmod 4 4 = 0 := rfl
theorem md4_5 : Int.fmod 5 4 = 1 := rfl
theorem md4_6 : Int.fmod 6 4 = 2 := rfl
theorem md4_7 : Int.fmod 7 4 = 3 := rfl
def rot (q : Q4) : Q4 := ⟨-q.x3, q.x0, q.x1, q.x2⟩
def rotN : Nat → Q4 → Q4
  | 0, q => q
  | n + 1, q => rotN n (rot q)
def mir (q : Q4) : Q4 := ⟨q.x0, -q.x3, -q.x2, -q.x1⟩
def gr (q : Q4) : Q4 := ⟨q.x0 + q.x1 - q.x3, q.x1 + q.x0 + q.x2, q.x2 + q.x1 + q.x3, q.x3 - q.x0 + q.x2⟩
def ls (q : Q4) : Q4 := ⟨q.x1 - q.x3 - q.x0, q.x0 + q.x2 - q.x1, q.x1 + q.x3 - q.x2, q.x2 - q.x0 - q.x3⟩
def stp (q : Q4) (d : Int) : Q4 :=
  if d = 0 then ⟨q.x0 + 1, q.x1, q.x2, q.x3⟩ else if d = 1 then ⟨q.x0, q.x1 + 1, q.x2, q.x3⟩ else if d = 2 then ⟨q.x0, q.x1, q.x2 + 1, q.x3⟩ else if d = 3 then ⟨q.x0, q.x1, q.x2, q.x3 + 1⟩
  else if d = 4 then ⟨q.x0 + -1, q.x1, q.x2, q.x3⟩ else if d = 5 then ⟨q.x0, q.x1 + -1, q.x2, q.x3⟩ else if d = 6 then ⟨q.x0, q.x1, q.x2 + -1, q.x3⟩ else ⟨q.x0, q.x1, q.x2, q.x3 + -1⟩
local macro_rules | `(tactic| simpa?! [$as,*]) => `(tactic| simp (config := { decide := true, implicitDefEqProofs := false }) only [still_non, fz_non, finD_non, still_bl, fz_bl, finD_bl, still_int, fz_int, finD_int, still_str, fz_str, finD_str, still_tup, fz_tup, finD_tup, still_lst, fz_lst, finD_lst, still_obj, fz_obj, finD_obj, still_dic0, fz_dic0, finD_dic0, still_loc, fz_loc, finD_loc, still_new, u_fz_new, finD_new, finD_own, fz_own, still_own, still_exn, nol_non, nol_bl, nol_int, nol_str, nol_dic0, nol_obj, nol_tup, nol_lst, nols_nil, nols_cons, truth_non, truth_bl, truth_int, truth_tup, seqOf_tup, itOf_tup, truth_lst, seqOf_lst, itOf_lst, isL_lst, truth_new, seqOf_new, itOf_new, isL_new, truth_own, seqOf_own, itOf_own, isL_own, itList_fix, isOw_own, isOw_non, isOw_bl, isOw_int, isOw_str, isOw_tup, isOw_obj, isOw_dic0, isOw_loc, isOw_exn, isOw_new, isOw_lst, isOw_scr, itW_t, itW_f, itList_ow, varD_val, varD_own, bind_ok, bind_err, b_ok, b_err, o_next, o_ret, o_brk, o_cont, o_err, noErr_o, fzs_of, binD_int, binI_add, binI_sub, binI_mul, binI_mod, binI_fdiv, binI_pow, kTup_of, kLst_of, kCall_of, kMake_of, mkD_ok, mkD_err, kAnd_tt, kAnd_tf, kAnd_ft, kAnd_ff, kIte_t, kIte_f, kNot_bl, sIte_t, sIte_f, sIte_ot, sIte_of, kNeg_int, kIsi_eq, kIsi_eqX, isiR_some, cmp_lt, cmp_le, cmp_gt, cmp_ge, cmp_eq_int, cmp_ne_int, cmp_eq_bl, cmp_ne_bl, bt_abs, bt_int, bt_int_bl, bt_tuple_tup, fin_ret, fin_next, fin_err, sSet_of, sSetO_of, sSetL_of, sPar2_of, sItem3_of, stOw_own, sAppO_of, sItemO2_of, sItemO_eq, retOw_own, ownC_own, stO_some, stL_some, sApp2_of, appD_of, frzD_own, sRaise_of, sFor_fix, forF_nil, forF_cons, forK_next, forK_cont, forK_brk, forK_ret, forK_err, bindT_nm, lcF_nil, lcF_cons, lcAcc_some, lcAcc_none, lcEnd_of, kSeq_loc, dynD_lst, kRng1_of, kSl_def, kSl2_def, List.map_cons, List.map_nil, List.cons_append, List.nil_append, List.length_cons, List.length_nil, List.replicate, List.getElem?_cons_zero, List.getElem?_cons_succ, List.set_cons_zero, List.set_cons_succ, List.length_set, List.all_cons, List.all_nil, Bool.and_true, Bool.and_self, Bool.not_true, Bool.not_false, if_true, if_false, Nat.reduceAdd, Nat.reduceSub, Nat.reduceLT, Nat.reduceEqDiff, decide_true, decide_false, Int.reduceNeg, evE_0, evE_1, evE_2, evE_3, evE_4, evE_5, evE_6, evE_7, evE_8, evE_9, evE_10, evE_11, evE_12, evE_13, evE_14, evE_15, evE_16, evE_17, evE_18, evE_19, evE_20, evE_21, evE_22, evE_23, evE_24, evE_25, evE_26, evEs_0, evEs_1, evAnd_0, evAnd_1, evAnd_2, evI_0, evI_1, evI_2, evI_3, evI_4, evI_5, kRev_lst, kRev_new, kEnum_tup, kEnum_lst, kEnum_new, enumD4, evS_0, evS_1, evS_2, evS_3, evS_4, evS_5, evS_6, evS_7, evS_8, evS_9, evS_10, evS_11, evS_12, evS_13, evS_14, evS_15, evS_16, evS_17, evS_18, evS_19, hasX_nil, hasX_emp, hasX_val, hasX_own, nxC_of, clrE_none, clrE_some, clr_next, clr_brk, clr_cont, clr_ret, hdlE_none, hdlE_some, varD_exc, evS_20, evS_21, evS_22, evB_0, evB_1, evB_2, kBin_eq, kCmp_eq, kChain_eq, kChainB_eq, kCons_eq, kCons2_eq, kIx_eq, kMeth_eq, kMeth1_eq, sPar_eq, sAttr_eq, sItem_eq, sItem2_eq, sApp_loc, sAppC_lst, sExpr_eq, sRet_of, forStep_eq, lcStep_eq, kRng2_eq, kZip_eq, forB_some, lcIn_some, lcTest_t, lcTest_f, wipeE_nil, wipeE_cons, setAll_nil, setAll_cons, bindT_tp, bindT_tpn, bindT_tpl, sSetT_tup, sSetT_new, sSetT_lst, nextO_some, kInt_int, kTest_bl, kChainC_t, kChainC_f, CE.isNul, optI_t, optI_f, tstC_t, tstC_f, ne_eq, not_false_eq_true, kSeq_tup, kSeq_lst, kSeq_new, kSeq_scr, kSeq_own, ixD_eq, ixS_some, ixR_some, seqOf_locq, seqC_lst, ln_tup, ln_lst, ln_new, ln_own, ln_scr, ln_loc, lenR_some, bt_listq, listR_some, storD_locq, storC_lst, putD_eq, attr_objq, attr_exnq, attr_locq, attrC_ins, fldR_some, setaD_loc, setaC_ins, setaF_some, kComp_fix, kComp_ow, kMeth2_still, kNot_q, notR_some, sl_scr, sl_lst, sl_new, sl_own, cmp_own_l, cmp_own_r, eqK_some, kNeg_q, negK_some, Option.isSome_some, eq_self, beq_self_eq_true,  cmp_eq_str, cmpOk_obj, isi_obj_ty, isi_obj_own, isi_exn_own, isi_exn_ve, L2.atI, L2.ixN, Option.bind_some, Option.map_some, Int.reduceToNat, still_scr, fz_scr, binD_oo, binD_oi, binD_io, binL_obj, binL_int, binRt_some, rOk_add, rOk_sub, rOk_mul, whT_t, whT_f, whK_next, whK_cont, whK_brk, whK_ret, cmp_isn_non, cmp_isb, cmp_isnb, kBl_bl, sAttr2_of, nextS_some, sTry_next, sTry_ret, u_sTry_err, hasX_exc, isX_f1, seqOf_scr, cmp_eq_dic, isi_non_int, isi_non_bool, isi_non_str, isi_non_tuple, isi_non_list, isi_non_dict, isi_non_own, cmpOk_non, eqOf_non, isi_bl_int, isi_bl_bool, isi_bl_str, isi_bl_tuple, isi_bl_list, isi_bl_dict, isi_bl_own, cmpOk_bl, eqOf_bl, isi_int_int, isi_int_bool, isi_int_str, isi_int_tuple, isi_int_list, isi_int_dict, isi_int_own, cmpOk_int, eqOf_int, isi_str_int, isi_str_bool, isi_str_str, isi_str_tuple, isi_str_list, isi_str_dict, isi_str_own, cmpOk_str, eqOf_str, isi_tup_int, isi_tup_bool, isi_tup_str, isi_tup_tuple, isi_tup_list, isi_tup_dict, isi_tup_own, cmpOk_tup, eqOf_tup, isi_lst_int, isi_lst_bool, isi_lst_str, isi_lst_tuple, isi_lst_list, isi_lst_dict, isi_lst_own, cmpOk_lst, eqOf_lst, isi_new_int, isi_new_bool, isi_new_str, isi_new_tuple, isi_new_list, isi_new_dict, isi_new_own, cmpOk_new, eqOf_new, isi_loc_int, isi_loc_bool, isi_loc_str, isi_loc_tuple, isi_loc_list, isi_loc_dict, isi_loc_own, isi_dic_int, isi_dic_bool, isi_dic_str, isi_dic_tuple, isi_dic_list, isi_dic_dict, isi_dic_own, cmpOk_dic, eqOf_dic, leftOk_int, leftOk_bl, p_exc0, p_nf0, p_exc1, p_nf1, p_f1_6, p_exc2, p_nf2, p_f2_5, p_exc3, p_nf3, p_f3_3, p_exc4, p_nf4, p_f4_4, p_cls5, p_nf5, p_f5_0, p_f5_1, p_f5_2, p_eq5, p_op5_add, p_op5_sub, p_op5_mul, p_neg5, p_sub0_0, p_in0_0, p_sub0_1, p_in0_1, p_sub0_2, p_in0_2, p_sub0_3, p_in0_3, p_sub0_4, p_in0_4, p_sub1_0, p_in1_0, p_sub1_1, p_in1_1, p_sub1_2, p_in1_2, p_sub1_3, p_in1_3, p_sub1_4, p_in1_4, p_sub2_0, p_in2_0, p_sub2_1, p_in2_1, p_sub2_2, p_in2_2, p_sub2_3, p_in2_3, p_sub2_4, p_in2_4, p_sub3_0, p_in3_0, p_sub3_1, p_in3_1, p_sub3_2, p_in3_2, p_sub3_3, p_in3_3, p_sub3_4, p_in3_4, p_sub4_0, p_in4_0, p_sub4_1, p_in4_1, p_sub4_2, p_in4_2, p_sub4_3, p_in4_3, p_sub4_4, p_in4_4, noErr_ok, bt_all4, sl_tup, c4_h0, c4_h1, c4_h2, c4_h3, c4_l1, c4_l2, c4_l3, c4_l4, bin_tt, d_isow, d_fin, d_still, d_fz, d_nol, md4_0, md4_1, md4_2, md4_3, md4_4, md4_5, md4_6, md4_7, Int.reduceAdd, List.append_nil, List.nil_append, $as,*])
theorem c_isc (n : Nat) (q : Q4) (S : Sto) : Tk.call P (n+2) 20 [q.d] S = .ok (.bl true) S := by
  unfold Q4.d
  simpa?! [r20, b20, c_int]
theorem c_chk (n : Nat) (q : Q4) (S : Sto) : Tk.call P (n+3) 21 [q.d] S = .ok q.d S := by
  simpa?! [r21, b21, c_isc, d_still, d_fz]
theorem c_chkd (n : Nat) {d : Int} (h0 : 0 ≤ d) (h7 : d ≤ 7) (S : Sto) : Tk.call P (n+3) 23 [.int d] S = .ok (.int d) S := by
  simpa?! [r23, b23, r22, b22, c_int, h0, h7]
theorem rngD_mem {lo : Int} {n : Nat} {x : D} (h : x ∈ rngD lo n) : ∃ i, x = .int i := by
  unfold rngD at h
  obtain ⟨k, _, rfl⟩ := List.mem_map.mp h
  exact ⟨_, rfl⟩
theorem rngD_len {lo : Int} {n : Nat} : (rngD lo n).length = n := by
  unfold rngD; rw [List.length_map, List.length_range]
theorem rot_loop (cl : Cl) {s1 : Tk.Slot} (S : Sto) : ∀ (xs : List D) (q : Q4) (s2 : Tk.Slot), (∀ z ∈ xs, ∃ i, z = .int i) → ∃ s2', 
    forF (forStep (.nm 2) (evB P cl (.cons (.set 0 (.tup (.cons (.neg (.ix (.var 0) (.int 3))) (.cons (.ix (.var 0) (.int 0)) (.cons (.ix (.var 0) (.int 1)) (.cons (.ix (.var 0) (.int 2)) .nil))))))
 .nil))) xs [.val q.d, s1, s2] S = .next [.val (rotN xs.length q).d, s1, s2'] S := by
  intro xs
  induction xs with
  | nil => intro q s2 _; exact ⟨s2, forF_nil _⟩
  | cons z xs ih =>
    intro q s2 hz
    obtain ⟨i, rfl⟩ := hz z (List.mem_cons_self ..)
    obtain ⟨s2', e⟩ := ih (rot q) (.val (.int i)) (fun w hw => hz w (List.mem_cons_of_mem _ hw))
    refine ⟨s2', ?_⟩
    rw [List.length_cons, rotN, forF_cons]
    have e : forF (forStep (.nm 2) (evB P cl (.cons (.set 0 (.tup (.cons (.neg (.ix (.var 0) (.int 3))) (.cons (.ix (.var 0) (.int 0)) (.cons (.ix (.var 0) (.int 1)) (.cons (.ix (.var 0) (.int 2)) .nil))))))
 .nil))) xs [.val (.tup [.int (-q.x3), .int q.x0, .int q.x1, .int q.x2]), s1, .val (.int i)] S = _ := e
    unfold Q4.d at e ⊢
    simpa?! [e]
theorem c_gone (n : Nat) (q : Q4) {d : Int} (h0 : 0 ≤ d) (h7 : d ≤ 7) (S : Sto) : Tk.call P (n+1) 24 [q.d, .int d, .int 1] S = .ok (stp q d).d S := by
  rcases (by omega : d = 0 ∨ d = 1 ∨ d = 2 ∨ d = 3 ∨ d = 4 ∨ d = 5 ∨ d = 6 ∨ d = 7) with h | h | h | h | h | h | h | h <;> subst h <;> unfold Q4.d stp <;> simpa?! [r24, b24]
theorem c_stepped (n : Nat) (q : Q4) {d : Int} (h0 : 0 ≤ d) (h7 : d ≤ 7) (S : Sto) : Tk.call P (n+4) 25 [q.d, .int d, .int 1] S = .ok (stp q d).d S := by
  simpa?! [r25, b25, c_chk, c_chkd _ h0 h7, c_gone _ q h0 h7, d_still, d_fz]
end Pg
set_option exponentiation.threshold 300
namespace Pg
open Tk
/-! ### == of data: a value is equal to itself -/
mutual
theorem eqB_refl : ∀ (d : D) (n : Nat), dat d n = true → eqB d d = true
  | .non, _, _ => rfl
  | .bl a, _, _ => beq_self_eq_true a
  | .int i, _, _ => beq_self_eq_true i
  | .str s, _, _ => beq_self_eq_true s
  | .tup xs, n + 1, h => eqBs_refl xs n h
  | .lst xs, n + 1, h => eqBs_refl xs n h
  | .tup xs, 0, h => nomatch h
  | .lst xs, 0, h => nomatch h
  | .obj _ _, _, h => nomatch h
  | .dic0, _, h => nomatch h
  | .scr _, _, h => nomatch h
  | .loc _, _, h => nomatch h
  | .own _ _, _, h => nomatch h
  | .new _, _, h => nomatch h
  | .exn _ _, _, h => nomatch h
theorem eqBs_refl : ∀ (ds : List D) (n : Nat), dats ds n = true → eqBs ds ds = true
  | [], _, _ => rfl
  | d :: ds, n, h => by
    have h : (dat d n && dats ds n) = true := h
    rw [Bool.and_eq_true] at h
    show (eqB d d && eqBs ds ds) = true
    rw [eqB_refl d n h.1, eqBs_refl ds n h.2]; rfl
end
theorem ne_same {x : D} (h : x ≠ .dic0) (S : Sto) (hd : dat (rd S x) 60 = true) (cl : Cl) : cmpD P cl .ne x x S = .ok (.bl false) S := by
  have e : cmpD P cl .ne x x S = if dat (rd S x) 60 && dat (rd S x) 60 then R.ok (D.bl (!eqB (rd S x) (rd S x))) S else R.bad := by
    cases x <;> first | rfl | exact absurd rfl h
  rw [e, hd, eqB_refl _ _ hd]; rfl
theorem ne_q (q : Q4) (S : Sto) (cl : Cl) : cmpD P cl .ne q.d q.d S = .ok (.bl false) S := ne_same (x := q.d) (fun z => by unfold Q4.d at z; cases z) S rfl cl
theorem bt_tup_new (xs : List D) (S : Sto) : btD .tuple [.new xs] S = .ok (.tup xs) S := rfl
theorem rngD4 : rngD 0 4 = [.int 0, .int 1, .int 2, .int 3] := rfl
theorem bin_rep4 (cl : Cl) (x : D) (S : Sto) : binD P cl .mul (.new [x]) (.int 4) S = .ok (.new [x, x, x, x]) S := by
  show (if (0 : Int) ≤ 4 ∧ (4 : Int) ≤ (LIM : Int) ∧ [x].length * (4 : Int).toNat ≤ LIM then R.ok (D.new (List.replicate (4 : Int).toNat [x]).flatten) S else .bad) = _
  rw [if_pos ⟨by decide, by decide, by show 1 * 4 ≤ 100000; decide⟩]
  rfl
theorem cut43 (a b c d : D) : cutD [a, b, c, d] none (some 3) = [a, b, c] := rfl
theorem bq_tt : ((true != true) = false) := rfl
theorem bq_tf : ((true != false) = true) := rfl
theorem bq_ft : ((false != true) = true) := rfl
theorem bq_ff : ((false != false) = false) := rfl
local macro_rules | `(tactic| simpa?! [$as,*]) => `(tactic| simp (config := { decide := true, implicitDefEqProofs := false }) only [still_non, fz_non, finD_non, still_bl, fz_bl, finD_bl, still_int, fz_int, finD_int, still_str, fz_str, finD_str, still_tup, fz_tup, finD_tup, still_lst, fz_lst, finD_lst, still_obj, fz_obj, finD_obj, still_dic0, fz_dic0, finD_dic0, still_loc, fz_loc, finD_loc, still_new, u_fz_new, finD_new, finD_own, fz_own, still_own, still_exn, nol_non, nol_bl, nol_int, nol_str, nol_dic0, nol_obj, nol_tup, nol_lst, nols_nil, nols_cons, truth_non, truth_bl, truth_int, truth_tup, seqOf_tup, itOf_tup, truth_lst, seqOf_lst, itOf_lst, isL_lst, truth_new, seqOf_new, itOf_new, isL_new, truth_own, seqOf_own, itOf_own, isL_own, itList_fix, isOw_own, isOw_non, isOw_bl, isOw_int, isOw_str, isOw_tup, isOw_obj, isOw_dic0, isOw_loc, isOw_exn, isOw_new, isOw_lst, isOw_scr, itW_t, itW_f, itList_ow, varD_val, varD_own, bind_ok, bind_err, b_ok, b_err, o_next, o_ret, o_brk, o_cont, o_err, noErr_o, fzs_of, binD_int, binI_add, binI_sub, binI_mul, binI_mod, binI_fdiv, binI_pow, kTup_of, kLst_of, kCall_of, kMake_of, mkD_ok, mkD_err, kAnd_tt, kAnd_tf, kAnd_ft, kAnd_ff, kIte_t, kIte_f, kNot_bl, sIte_t, sIte_f, sIte_ot, sIte_of, kNeg_int, kIsi_eq, kIsi_eqX, isiR_some, cmp_lt, cmp_le, cmp_gt, cmp_ge, cmp_eq_int, cmp_ne_int, cmp_eq_bl, cmp_ne_bl, bt_abs, bt_int, bt_int_bl, bt_tuple_tup, fin_ret, fin_next, fin_err, sSet_of, sSetO_of, sSetL_of, sPar2_of, sItem3_of, stOw_own, sAppO_of, sItemO2_of, sItemO_eq, retOw_own, ownC_own, stO_some, stL_some, sApp2_of, appD_of, frzD_own, sRaise_of, sFor_fix, forF_nil, forF_cons, forK_next, forK_cont, forK_brk, forK_ret, forK_err, bindT_nm, lcF_nil, lcF_cons, lcAcc_some, lcAcc_none, lcEnd_of, kSeq_loc, dynD_lst, kRng1_of, kSl_def, kSl2_def, List.map_cons, List.map_nil, List.cons_append, List.nil_append, List.length_cons, List.length_nil, List.replicate, List.getElem?_cons_zero, List.getElem?_cons_succ, List.set_cons_zero, List.set_cons_succ, List.length_set, List.all_cons, List.all_nil, Bool.and_true, Bool.and_self, Bool.not_true, Bool.not_false, if_true, if_false, Nat.reduceAdd, Nat.reduceSub, Nat.reduceLT, Nat.reduceEqDiff, decide_true, decide_false, Int.reduceNeg, evE_0, evE_1, evE_2, evE_3, evE_4, evE_5, evE_6, evE_7, evE_8, evE_9, evE_10, evE_11, evE_12, evE_13, evE_14, evE_15, evE_16, evE_17, evE_18, evE_19, evE_20, evE_21, evE_22, evE_23, evE_24, evE_25, evE_26, evEs_0, evEs_1, evAnd_0, evAnd_1, evAnd_2, evI_0, evI_1, evI_2, evI_3, evI_4, evI_5, kRev_lst, kRev_new, kEnum_tup, kEnum_lst, kEnum_new, enumD4, evS_0, evS_1, evS_2, evS_3, evS_4, evS_5, evS_6, evS_7, evS_8, evS_9, evS_10, evS_11, evS_12, evS_13, evS_14, evS_15, evS_16, evS_17, evS_18, evS_19, hasX_nil, hasX_emp, hasX_val, hasX_own, nxC_of, clrE_none, clrE_some, clr_next, clr_brk, clr_cont, clr_ret, hdlE_none, hdlE_some, varD_exc, evS_20, evS_21, evS_22, evB_0, evB_1, evB_2, kBin_eq, kCmp_eq, kChain_eq, kChainB_eq, kCons_eq, kCons2_eq, kIx_eq, kMeth_eq, kMeth1_eq, sPar_eq, sAttr_eq, sItem_eq, sItem2_eq, sApp_loc, sAppC_lst, sExpr_eq, sRet_of, forStep_eq, lcStep_eq, kRng2_eq, kZip_eq, forB_some, lcIn_some, lcTest_t, lcTest_f, wipeE_nil, wipeE_cons, setAll_nil, setAll_cons, bindT_tp, bindT_tpn, bindT_tpl, sSetT_tup, sSetT_new, sSetT_lst, nextO_some, kInt_int, kTest_bl, kChainC_t, kChainC_f, CE.isNul, optI_t, optI_f, tstC_t, tstC_f, ne_eq, not_false_eq_true, kSeq_tup, kSeq_lst, kSeq_new, kSeq_scr, kSeq_own, ixD_eq, ixS_some, ixR_some, seqOf_locq, seqC_lst, ln_tup, ln_lst, ln_new, ln_own, ln_scr, ln_loc, lenR_some, bt_listq, listR_some, storD_locq, storC_lst, putD_eq, attr_objq, attr_exnq, attr_locq, attrC_ins, fldR_some, setaD_loc, setaC_ins, setaF_some, kComp_fix, kComp_ow, kMeth2_still, kNot_q, notR_some, sl_scr, sl_lst, sl_new, sl_own, cmp_own_l, cmp_own_r, eqK_some, kNeg_q, negK_some, Option.isSome_some, eq_self, beq_self_eq_true,  cmp_eq_str, cmpOk_obj, isi_obj_ty, isi_obj_own, isi_exn_own, isi_exn_ve, L2.atI, L2.ixN, Option.bind_some, Option.map_some, Int.reduceToNat, still_scr, fz_scr, binD_oo, binD_oi, binD_io, binL_obj, binL_int, binRt_some, rOk_add, rOk_sub, rOk_mul, whT_t, whT_f, whK_next, whK_cont, whK_brk, whK_ret, cmp_isn_non, cmp_isb, cmp_isnb, kBl_bl, sAttr2_of, nextS_some, sTry_next, sTry_ret, u_sTry_err, hasX_exc, isX_f1, seqOf_scr, cmp_eq_dic, isi_non_int, isi_non_bool, isi_non_str, isi_non_tuple, isi_non_list, isi_non_dict, isi_non_own, cmpOk_non, eqOf_non, isi_bl_int, isi_bl_bool, isi_bl_str, isi_bl_tuple, isi_bl_list, isi_bl_dict, isi_bl_own, cmpOk_bl, eqOf_bl, isi_int_int, isi_int_bool, isi_int_str, isi_int_tuple, isi_int_list, isi_int_dict, isi_int_own, cmpOk_int, eqOf_int, isi_str_int, isi_str_bool, isi_str_str, isi_str_tuple, isi_str_list, isi_str_dict, isi_str_own, cmpOk_str, eqOf_str, isi_tup_int, isi_tup_bool, isi_tup_str, isi_tup_tuple, isi_tup_list, isi_tup_dict, isi_tup_own, cmpOk_tup, eqOf_tup, isi_lst_int, isi_lst_bool, isi_lst_str, isi_lst_tuple, isi_lst_list, isi_lst_dict, isi_lst_own, cmpOk_lst, eqOf_lst, isi_new_int, isi_new_bool, isi_new_str, isi_new_tuple, isi_new_list, isi_new_dict, isi_new_own, cmpOk_new, eqOf_new, isi_loc_int, isi_loc_bool, isi_loc_str, isi_loc_tuple, isi_loc_list, isi_loc_dict, isi_loc_own, isi_dic_int, isi_dic_bool, isi_dic_str, isi_dic_tuple, isi_dic_list, isi_dic_dict, isi_dic_own, cmpOk_dic, eqOf_dic, leftOk_int, leftOk_bl, p_exc0, p_nf0, p_exc1, p_nf1, p_f1_6, p_exc2, p_nf2, p_f2_5, p_exc3, p_nf3, p_f3_3, p_exc4, p_nf4, p_f4_4, p_cls5, p_nf5, p_f5_0, p_f5_1, p_f5_2, p_eq5, p_op5_add, p_op5_sub, p_op5_mul, p_neg5, p_sub0_0, p_in0_0, p_sub0_1, p_in0_1, p_sub0_2, p_in0_2, p_sub0_3, p_in0_3, p_sub0_4, p_in0_4, p_sub1_0, p_in1_0, p_sub1_1, p_in1_1, p_sub1_2, p_in1_2, p_sub1_3, p_in1_3, p_sub1_4, p_in1_4, p_sub2_0, p_in2_0, p_sub2_1, p_in2_1, p_sub2_2, p_in2_2, p_sub2_3, p_in2_3, p_sub2_4, p_in2_4, p_sub3_0, p_in3_0, p_sub3_1, p_in3_1, p_sub3_2, p_in3_2, p_sub3_3, p_in3_3, p_sub3_4, p_in3_4, p_sub4_0, p_in4_0, p_sub4_1, p_in4_1, p_sub4_2, p_in4_2, p_sub4_3, p_in4_3, p_sub4_4, p_in4_4, noErr_ok, Int.reduceSub, bt_tup_new, rngD4, bin_rep4, cut43, bq_tt, bq_tf, bq_ft, bq_ff, Bool.and_true, Bool.and_false, Bool.true_and, Bool.false_and, zipB_tup, bt_all4, sl_tup, c4_h0, c4_h1, c4_h2, c4_h3, c4_l1, c4_l2, c4_l3, c4_l4, bin_tt, d_isow, d_fin, d_still, d_fz, d_nol, md4_0, md4_1, md4_2, md4_3, md4_4, md4_5, md4_6, md4_7, Int.reduceAdd, List.append_nil, List.nil_append, $as,*])
/-- bounds of a corner's numbers -/
structure Qb (q : Q4) (m : Nat) : Prop where
  b0 : Bnd q.x0 m
  b1 : Bnd q.x1 m
  b2 : Bnd q.x2 m
  b3 : Bnd q.x3 m
theorem Qb.mono {q : Q4} {m k : Nat} (h : Qb q m) (l : m ≤ k) : Qb q k := ⟨h.b0.mono l, h.b1.mono l, h.b2.mono l, h.b3.mono l⟩
section
variable {cs : List Int} {k : Nat} {a r : Int}
theorem l_corner (n : Nat) (hcs : ∀ z ∈ cs, z.natAbs < 2 ^ 1048576) (v : V (k+5) a r) : ∃ q a' r', Qb q 84 ∧ V k a' r' ∧ Tk.call P (n+4) 45 [.loc 0] [St cs a r] = .ok q.d [St cs a' r'] := by
  obtain ⟨d, a0, r0, h1, h2, v0, e0⟩ := draw_ok (n+1) cs hcs v (many := 4) (by decide) (by decide)
  have key : ∀ (mo : Int), 0 ≤ mo → Bnd mo 84 → ∃ q a' r', Qb q 84 ∧ V k a' r' ∧ ∀ (cl : Cl), cl = Tk.call P (n+3) → 
     ∃ x0 x1 x2 x3 a1 r1 a2 r2 a3 r3, q = ⟨x0, x1, x2, x3⟩ ∧ cl 37 [.loc 0, .int (-mo), .int mo] [St cs a0 r0] = .ok (.int x0) [St cs a1 r1] ∧ cl 37 [.loc 0, .int (-mo), .int mo] [St cs a1 r1] = .ok (.int x1) [St cs a2 r2] ∧
     cl 37 [.loc 0, .int (-mo), .int mo] [St cs a2 r2] = .ok (.int x2) [St cs a3 r3] ∧ cl 37 [.loc 0, .int (-mo), .int mo] [St cs a3 r3] = .ok (.int x3) [St cs a' r'] := by
    intro mo h0 b
    obtain ⟨x0, a1, r1, l0, u0, v1, e1⟩ := btw_ok n cs hcs v0 (lo := -mo) (hi := mo) (by omega) (by decide)
    obtain ⟨x1, a2, r2, l1, u1, v2, e2⟩ := btw_ok n cs hcs v1 (lo := -mo) (hi := mo) (by omega) (by decide)
    obtain ⟨x2, a3, r3, l2, u2, v3, e3⟩ := btw_ok n cs hcs v2 (lo := -mo) (hi := mo) (by omega) (by decide)
    obtain ⟨x3, a4, r4, l3, u3, v4, e4⟩ := btw_ok n cs hcs v3 (lo := -mo) (hi := mo) (by omega) (by decide)
    have hb := b.h
    exact ⟨⟨x0, x1, x2, x3⟩, a4, r4, ⟨⟨by show Int.natAbs x0 < _; omega⟩, ⟨by show Int.natAbs x1 < _; omega⟩, ⟨by show Int.natAbs x2 < _; omega⟩, ⟨by show Int.natAbs x3 < _; omega⟩⟩, v4, fun cl hc => ⟨x0, x1, x2, x3, a1, r1, a2, r2, a3, r3, rfl, by rw [hc]; exact e1, by rw [hc]; exact e2, by rw [hc]; exact e3, by rw [hc]; exact e4⟩⟩
  by_cases d2 : d = 2
  · obtain ⟨q, a', r', hq, v', e⟩ := key 1000 (by decide) ⟨by decide⟩
    obtain ⟨x0, x1, x2, x3, a1, r1, a2, r2, a3, r3, rfl, e1, e2, e3, e4⟩ := e _ rfl
    exact ⟨_, a', r', hq, v', by unfold Q4.d; simpa?! [r45, b45, e0, d2, e1, e2, e3, e4]⟩
  · by_cases d3 : d = 3
    · obtain ⟨q, a', r', hq, v', e⟩ := key (10 ^ 25) (by decide) ⟨by decide⟩
      obtain ⟨x0, x1, x2, x3, a1, r1, a2, r2, a3, r3, rfl, e1, e2, e3, e4⟩ := e _ rfl
      exact ⟨_, a', r', hq, v', by unfold Q4.d; simpa?! [r45, b45, e0, d3, e1, e2, e3, e4]⟩
    · obtain ⟨q, a', r', hq, v', e⟩ := key 5 (by decide) ⟨by decide⟩
      obtain ⟨x0, x1, x2, x3, a1, r1, a2, r2, a3, r3, rfl, e1, e2, e3, e4⟩ := e _ rfl
      exact ⟨_, a', r', hq, v', by unfold Q4.d; simpa?! [r45, b45, e0, d2, d3, e1, e2, e3, e4]⟩
theorem c_lisc (n : Nat) (q : Q4) (S : Sto) : Tk.call P (n+1) 48 [q.d] S = .ok (.bl true) S := by
  unfold Q4.d
  simpa?! [r48, b48]
/-! ### spoilt corners -/
inductive Bp : D → Prop where
  | t : Bp (.bl true) | s : Bp (.str "0") | n : Bp .non | u : Bp (.tup [.int 0])
inductive BadC : D → Prop where
  | l (a b c d : Int) : BadC (.lst [.int a, .int b, .int c, .int d])
  | t3 (a b c : Int) : BadC (.tup [.int a, .int b, .int c])
  | t5 (a b c d : Int) : BadC (.tup [.int a, .int b, .int c, .int d, .int 0])
  | n : BadC .non
  | p0 (x : D) (h : Bp x) (b c d : Int) : BadC (.tup [x, .int b, .int c, .int d])
  | p1 (x : D) (h : Bp x) (a c d : Int) : BadC (.tup [.int a, x, .int c, .int d])
  | p2 (x : D) (h : Bp x) (a b d : Int) : BadC (.tup [.int a, .int b, x, .int d])
  | p3 (x : D) (h : Bp x) (a b c : Int) : BadC (.tup [.int a, .int b, .int c, x])
theorem bp_ok {x : D} (h : Bp x) : still x = true ∧ fz x = x := by cases h <;> exact ⟨rfl, rfl⟩
theorem bp_int (n : Nat) {x : D} (h : Bp x) (S : Sto) : Tk.call P (n+1) 0 [x] S = .ok (.bl false) S := by
  cases h
  · exact c_intB n true S
  · exact c_intS n "0" S
  · exact c_intN n S
  · exact c_intT n _ S
theorem bc_ok {x : D} (h : BadC x) : still x = true ∧ fz x = x ∧ nol x = true := by
  cases h with
  | p0 x h => cases h <;> exact ⟨rfl, rfl, rfl⟩
  | p1 x h => cases h <;> exact ⟨rfl, rfl, rfl⟩
  | p2 x h => cases h <;> exact ⟨rfl, rfl, rfl⟩
  | p3 x h => cases h <;> exact ⟨rfl, rfl, rfl⟩
  | _ => exact ⟨rfl, rfl, rfl⟩
theorem bc_isc (n : Nat) {x : D} (h : BadC x) (S : Sto) : Tk.call P (n+2) 20 [x] S = .ok (.bl false) S := by
  cases h with
  | p0 x h => obtain ⟨h1, h2⟩ := bp_ok h; simpa?! [r20, b20, c_int, bp_int n h, h1, h2]
  | p1 x h => obtain ⟨h1, h2⟩ := bp_ok h; simpa?! [r20, b20, c_int, bp_int n h, h1, h2]
  | p2 x h => obtain ⟨h1, h2⟩ := bp_ok h; simpa?! [r20, b20, c_int, bp_int n h, h1, h2]
  | p3 x h => obtain ⟨h1, h2⟩ := bp_ok h; simpa?! [r20, b20, c_int, bp_int n h, h1, h2]
  | l => simpa?! [r20, b20]
  | t3 => simpa?! [r20, b20]
  | t5 => simpa?! [r20, b20]
  | n => simpa?! [r20, b20]
theorem bp_dat {x : D} (h : Bp x) : dat x 58 = true := by
  cases h
  · rfl
  · decide +kernel
  · rfl
  · rfl
theorem bc_dat {x : D} (h : BadC x) : dat (.lst [x, x, x, x]) 60 = true := by
  have h1 : dat x 59 = true := by
    cases h with
    | p0 x h => show (dat x 58 && (true && (true && (true && true)))) = true; rw [bp_dat h]; rfl
    | p1 x h => show (true && (dat x 58 && (true && (true && true)))) = true; rw [bp_dat h]; rfl
    | p2 x h => show (true && (true && (dat x 58 && (true && true)))) = true; rw [bp_dat h]; rfl
    | p3 x h => show (true && (true && (true && (dat x 58 && true)))) = true; rw [bp_dat h]; rfl
    | _ => rfl
  show (dat x 59 && (dat x 59 && (dat x 59 && (dat x 59 && true)))) = true
  rw [h1]; rfl
theorem ne_bc {x : D} (h : BadC x) (S : Sto) (cl : Cl) : cmpD P cl .ne (.new [x, x, x, x]) (.new [x, x, x, x]) S = .ok (.bl false) S := ne_same (x := .new [x, x, x, x]) (fun z => by cases z) S (bc_dat h) cl
theorem bc_chk (n : Nat) {x : D} (h : BadC x) (S : Sto) : Tk.call P (n+3) 21 [x] S = .err 3 [x] S := by
  obtain ⟨h1, h2, h3⟩ := bc_ok h
  simpa?! [r21, b21, bc_isc n h, h1, h2, h3]
theorem l_bad (hcs : ∀ z ∈ cs, z.natAbs < 2 ^ 1048576) (v : V (k+2) a r) (q : Q4) : ∃ x y a' r', BadC x ∧ still y = true ∧ fz y = x ∧ V k a' r' ∧ Tk.call P 29 49 [.loc 0, q.d] [St cs a r] = .ok y [St cs a' r'] := by
  obtain ⟨d, a0, r0, h1, h2, v0, e0⟩ := draw_ok 26 cs hcs v (many := 8) (by decide) (by decide)
  obtain ⟨e, a1, r1, h3, h4, v1, e1⟩ := draw_ok 26 cs hcs v0 (many := 4) (by decide) (by decide)
  unfold Q4.d
  have fin : ∀ {x : D}, BadC x → Tk.call P 29 49 [.loc 0, .tup [.int q.x0, .int q.x1, .int q.x2, .int q.x3]] [St cs a r] = .ok x [St cs a1 r1] → ∃ x y a' r', BadC x ∧ still y = true ∧ fz y = x ∧ V k a' r' ∧ Tk.call P 29 49 [.loc 0, .tup [.int q.x0, .int q.x1, .int q.x2, .int q.x3]] [St cs a r] = .ok y [St cs a' r'] := fun {x} h e => ⟨x, x, a1, r1, h, (bc_ok h).1, (bc_ok h).2.1, v1, e⟩
  by_cases d0 : d = 0
  · exact ⟨_, .new [.int q.x0, .int q.x1, .int q.x2, .int q.x3], a1, r1, .l q.x0 q.x1 q.x2 q.x3, rfl, rfl, v1, by simpa?! [r49, b49, e0, e1, d0]⟩
  by_cases d1 : d = 1
  · exact fin (.t3 q.x0 q.x1 q.x2) (by simpa?! [r49, b49, e0, e1, d1])
  by_cases d2 : d = 2
  · exact fin (.t5 q.x0 q.x1 q.x2 q.x3) (by simpa?! [r49, b49, e0, e1, d2])
  by_cases d3 : d = 3
  · exact fin (.n) (by simpa?! [r49, b49, e0, e1, d3])
  rcases (by omega : d = 4 ∨ d = 5 ∨ d = 6 ∨ d = 7) with h | h | h | h <;> subst h <;> rcases (by omega : e = 0 ∨ e = 1 ∨ e = 2 ∨ e = 3) with h | h | h | h <;> subst h
  · exact fin (.p0 (.bl true) .t q.x1 q.x2 q.x3) (by simpa?! [r49, b49, e0, e1])
  · exact fin (.p1 (.bl true) .t q.x0 q.x2 q.x3) (by simpa?! [r49, b49, e0, e1])
  · exact fin (.p2 (.bl true) .t q.x0 q.x1 q.x3) (by simpa?! [r49, b49, e0, e1])
  · exact fin (.p3 (.bl true) .t q.x0 q.x1 q.x2) (by simpa?! [r49, b49, e0, e1])
  · exact fin (.p0 (.str "0") .s q.x1 q.x2 q.x3) (by simpa?! [r49, b49, e0, e1])
  · exact fin (.p1 (.str "0") .s q.x0 q.x2 q.x3) (by simpa?! [r49, b49, e0, e1])
  · exact fin (.p2 (.str "0") .s q.x0 q.x1 q.x3) (by simpa?! [r49, b49, e0, e1])
  · exact fin (.p3 (.str "0") .s q.x0 q.x1 q.x2) (by simpa?! [r49, b49, e0, e1])
  · exact fin (.p0 (.non) .n q.x1 q.x2 q.x3) (by simpa?! [r49, b49, e0, e1])
  · exact fin (.p1 (.non) .n q.x0 q.x2 q.x3) (by simpa?! [r49, b49, e0, e1])
  · exact fin (.p2 (.non) .n q.x0 q.x1 q.x3) (by simpa?! [r49, b49, e0, e1])
  · exact fin (.p3 (.non) .n q.x0 q.x1 q.x2) (by simpa?! [r49, b49, e0, e1])
  · exact fin (.p0 (.tup [.int 0]) .u q.x1 q.x2 q.x3) (by simpa?! [r49, b49, e0, e1])
  · exact fin (.p1 (.tup [.int 0]) .u q.x0 q.x2 q.x3) (by simpa?! [r49, b49, e0, e1])
  · exact fin (.p2 (.tup [.int 0]) .u q.x0 q.x1 q.x3) (by simpa?! [r49, b49, e0, e1])
  · exact fin (.p3 (.tup [.int 0]) .u q.x0 q.x1 q.x2) (by simpa?! [r49, b49, e0, e1])
end
end Pg
set_option exponentiation.threshold 300
namespace Pg
open Tk
local macro_rules | `(tactic| simpa?! [$as,*]) => `(tactic| simp (config := { decide := true, implicitDefEqProofs := false }) only [still_non, fz_non, finD_non, still_bl, fz_bl, finD_bl, still_int, fz_int, finD_int, still_str, fz_str, finD_str, still_tup, fz_tup, finD_tup, still_lst, fz_lst, finD_lst, still_obj, fz_obj, finD_obj, still_dic0, fz_dic0, finD_dic0, still_loc, fz_loc, finD_loc, still_new, u_fz_new, finD_new, finD_own, fz_own, still_own, still_exn, nol_non, nol_bl, nol_int, nol_str, nol_dic0, nol_obj, nol_tup, nol_lst, nols_nil, nols_cons, truth_non, truth_bl, truth_int, truth_tup, seqOf_tup, itOf_tup, truth_lst, seqOf_lst, itOf_lst, isL_lst, truth_new, seqOf_new, itOf_new, isL_new, truth_own, seqOf_own, itOf_own, isL_own, itList_fix, isOw_own, isOw_non, isOw_bl, isOw_int, isOw_str, isOw_tup, isOw_obj, isOw_dic0, isOw_loc, isOw_exn, isOw_new, isOw_lst, isOw_scr, itW_t, itW_f, itList_ow, varD_val, varD_own, bind_ok, bind_err, b_ok, b_err, o_next, o_ret, o_brk, o_cont, o_err, noErr_o, fzs_of, binD_int, binI_add, binI_sub, binI_mul, binI_mod, binI_fdiv, binI_pow, kTup_of, kLst_of, kCall_of, kMake_of, mkD_ok, mkD_err, kAnd_tt, kAnd_tf, kAnd_ft, kAnd_ff, kIte_t, kIte_f, kNot_bl, sIte_t, sIte_f, sIte_ot, sIte_of, kNeg_int, kIsi_eq, kIsi_eqX, isiR_some, cmp_lt, cmp_le, cmp_gt, cmp_ge, cmp_eq_int, cmp_ne_int, cmp_eq_bl, cmp_ne_bl, bt_abs, bt_int, bt_int_bl, bt_tuple_tup, fin_ret, fin_next, fin_err, sSet_of, sSetO_of, sSetL_of, sPar2_of, sItem3_of, stOw_own, sAppO_of, sItemO2_of, sItemO_eq, retOw_own, ownC_own, stO_some, stL_some, sApp2_of, appD_of, frzD_own, sRaise_of, sFor_fix, forF_nil, forF_cons, forK_next, forK_cont, forK_brk, forK_ret, forK_err, bindT_nm, lcF_nil, lcF_cons, lcAcc_some, lcAcc_none, lcEnd_of, kSeq_loc, dynD_lst, kRng1_of, kSl_def, kSl2_def, List.map_cons, List.map_nil, List.cons_append, List.nil_append, List.length_cons, List.length_nil, List.replicate, List.getElem?_cons_zero, List.getElem?_cons_succ, List.set_cons_zero, List.set_cons_succ, List.length_set, List.all_cons, List.all_nil, Bool.and_true, Bool.and_self, Bool.not_true, Bool.not_false, if_true, if_false, Nat.reduceAdd, Nat.reduceSub, Nat.reduceLT, Nat.reduceEqDiff, decide_true, decide_false, Int.reduceNeg, evE_0, evE_1, evE_2, evE_3, evE_4, evE_5, evE_6, evE_7, evE_8, evE_9, evE_10, evE_11, evE_12, evE_13, evE_14, evE_15, evE_16, evE_17, evE_18, evE_19, evE_20, evE_21, evE_22, evE_23, evE_24, evE_25, evE_26, evEs_0, evEs_1, evAnd_0, evAnd_1, evAnd_2, evI_0, evI_1, evI_2, evI_3, evI_4, evI_5, kRev_lst, kRev_new, kEnum_tup, kEnum_lst, kEnum_new, enumD4, evS_0, evS_1, evS_2, evS_3, evS_4, evS_5, evS_6, evS_7, evS_8, evS_9, evS_10, evS_11, evS_12, evS_13, evS_14, evS_15, evS_16, evS_17, evS_18, evS_19, hasX_nil, hasX_emp, hasX_val, hasX_own, nxC_of, clrE_none, clrE_some, clr_next, clr_brk, clr_cont, clr_ret, hdlE_none, hdlE_some, varD_exc, evS_20, evS_21, evS_22, evB_0, evB_1, evB_2, kBin_eq, kCmp_eq, kChain_eq, kChainB_eq, kCons_eq, kCons2_eq, kIx_eq, kMeth_eq, kMeth1_eq, sPar_eq, sAttr_eq, sItem_eq, sItem2_eq, sApp_loc, sAppC_lst, sExpr_eq, sRet_of, forStep_eq, lcStep_eq, kRng2_eq, kZip_eq, forB_some, lcIn_some, lcTest_t, lcTest_f, wipeE_nil, wipeE_cons, setAll_nil, setAll_cons, bindT_tp, bindT_tpn, bindT_tpl, sSetT_tup, sSetT_new, sSetT_lst, nextO_some, kInt_int, kTest_bl, kChainC_t, kChainC_f, CE.isNul, optI_t, optI_f, tstC_t, tstC_f, ne_eq, not_false_eq_true, kSeq_tup, kSeq_lst, kSeq_new, kSeq_scr, kSeq_own, ixD_eq, ixS_some, ixR_some, seqOf_locq, seqC_lst, ln_tup, ln_lst, ln_new, ln_own, ln_scr, ln_loc, lenR_some, bt_listq, listR_some, storD_locq, storC_lst, putD_eq, attr_objq, attr_exnq, attr_locq, attrC_ins, fldR_some, setaD_loc, setaC_ins, setaF_some, kComp_fix, kComp_ow, kMeth2_still, kNot_q, notR_some, sl_scr, sl_lst, sl_new, sl_own, cmp_own_l, cmp_own_r, eqK_some, kNeg_q, negK_some, Option.isSome_some, eq_self, beq_self_eq_true,  cmp_eq_str, cmpOk_obj, isi_obj_ty, isi_obj_own, isi_exn_own, isi_exn_ve, L2.atI, L2.ixN, Option.bind_some, Option.map_some, Int.reduceToNat, still_scr, fz_scr, binD_oo, binD_oi, binD_io, binL_obj, binL_int, binRt_some, rOk_add, rOk_sub, rOk_mul, whT_t, whT_f, whK_next, whK_cont, whK_brk, whK_ret, cmp_isn_non, cmp_isb, cmp_isnb, kBl_bl, sAttr2_of, nextS_some, sTry_next, sTry_ret, u_sTry_err, hasX_exc, isX_f1, seqOf_scr, cmp_eq_dic, isi_non_int, isi_non_bool, isi_non_str, isi_non_tuple, isi_non_list, isi_non_dict, isi_non_own, cmpOk_non, eqOf_non, isi_bl_int, isi_bl_bool, isi_bl_str, isi_bl_tuple, isi_bl_list, isi_bl_dict, isi_bl_own, cmpOk_bl, eqOf_bl, isi_int_int, isi_int_bool, isi_int_str, isi_int_tuple, isi_int_list, isi_int_dict, isi_int_own, cmpOk_int, eqOf_int, isi_str_int, isi_str_bool, isi_str_str, isi_str_tuple, isi_str_list, isi_str_dict, isi_str_own, cmpOk_str, eqOf_str, isi_tup_int, isi_tup_bool, isi_tup_str, isi_tup_tuple, isi_tup_list, isi_tup_dict, isi_tup_own, cmpOk_tup, eqOf_tup, isi_lst_int, isi_lst_bool, isi_lst_str, isi_lst_tuple, isi_lst_list, isi_lst_dict, isi_lst_own, cmpOk_lst, eqOf_lst, isi_new_int, isi_new_bool, isi_new_str, isi_new_tuple, isi_new_list, isi_new_dict, isi_new_own, cmpOk_new, eqOf_new, isi_loc_int, isi_loc_bool, isi_loc_str, isi_loc_tuple, isi_loc_list, isi_loc_dict, isi_loc_own, isi_dic_int, isi_dic_bool, isi_dic_str, isi_dic_tuple, isi_dic_list, isi_dic_dict, isi_dic_own, cmpOk_dic, eqOf_dic, leftOk_int, leftOk_bl, p_exc0, p_nf0, p_exc1, p_nf1, p_f1_6, p_exc2, p_nf2, p_f2_5, p_exc3, p_nf3, p_f3_3, p_exc4, p_nf4, p_f4_4, p_cls5, p_nf5, p_f5_0, p_f5_1, p_f5_2, p_eq5, p_op5_add, p_op5_sub, p_op5_mul, p_neg5, p_sub0_0, p_in0_0, p_sub0_1, p_in0_1, p_sub0_2, p_in0_2, p_sub0_3, p_in0_3, p_sub0_4, p_in0_4, p_sub1_0, p_in1_0, p_sub1_1, p_in1_1, p_sub1_2, p_in1_2, p_sub1_3, p_in1_3, p_sub1_4, p_in1_4, p_sub2_0, p_in2_0, p_sub2_1, p_in2_1, p_sub2_2, p_in2_2, p_sub2_3, p_in2_3, p_sub2_4, p_in2_4, p_sub3_0, p_in3_0, p_sub3_1, p_in3_1, p_sub3_2, p_in3_2, p_sub3_3, p_in3_3, p_sub3_4, p_in3_4, p_sub4_0, p_in4_0, p_sub4_1, p_in4_1, p_sub4_2, p_in4_2, p_sub4_3, p_in4_3, p_sub4_4, p_in4_4, noErr_ok, Int.reduceSub, bt_tup_new, rngD4, bin_rep4, cut43, bq_tt, bq_tf, bq_ft, bq_ff, Bool.and_true, Bool.and_false, Bool.true_and, Bool.false_and, zipB_tup, bt_all4, sl_tup, c4_h0, c4_h1, c4_h2, c4_h3, c4_l1, c4_l2, c4_l3, c4_l4, bin_tt, d_isow, d_fin, d_still, d_fz, d_nol, md4_0, md4_1, md4_2, md4_3, md4_4, md4_5, md4_6, md4_7, Int.reduceAdd, List.append_nil, List.nil_append, $as,*])
def Dv (t b : Int) : Prop := ∃ k, t = k * b
theorem fm_dv {t b : Int} (hb : 0 < b) : t.fmod b = 0 ↔ Dv t b := by
  rw [Int.fmod_eq_emod_of_nonneg _ (by omega)]
  constructor
  · intro h
    obtain ⟨k, hk⟩ := Int.dvd_of_emod_eq_zero h
    exact ⟨k, by rw [hk, Int.mul_comm]⟩
  · rintro ⟨k, rfl⟩
    exact Int.mul_emod_left ..
theorem c_point (n : Nat) {x y : D} {t r u t2 r2 u2 : Int} (hx : Rp x t r u) (hy : Rp y t2 r2 u2) (S : Sto) : Tk.call P (n+6) 16 [.tup [x, y]] S = .ok (.tup [Ob t r u, Ob t2 r2 u2]) S := by
  rcases hx with rfl | ⟨rfl, rfl, rfl⟩ <;> rcases hy with rfl | ⟨rfl, rfl, rfl⟩ <;> simpa?! [r16, b16, r15, b15, r17, b17, c_isnO, c_isnI, c_asO, c_asI]
theorem c_given (n : Nat) {a b c : Int} {m : Nat} [Bnd a m] [Bnd b m] [Bnd c m] (hm : m < 8000) (hc : 0 < c) (S : Sto) : ∃ x t r u p, Tk.call P (n+3) 46 [.tup [.int a, .int b, .int c]] S = .ok x S ∧ Num a b c t r u p ∧ Rp x t r u := by
  have hc0 : c ≠ 0 := by omega
  have h9 : m < 9000 := by omega
  obtain ⟨t, r, u, nn⟩ := num_ex (a := a) (b := b) hc0
  have e1 := c_init n a b c hm hc0
  have hrt := num_rt nn
  unfold rt at hrt
  injection hrt with _ q1
  rw [q1] at e1
  by_cases hb : b = 0
  · by_cases hd : a.fmod c = 0
    · obtain ⟨j, hj⟩ := (fm_dv hc).mp hd
      have e2 : a.fdiv c = j := by rw [hj, Int.mul_fdiv_cancel _ hc0]
      refine ⟨.int j, j, 0, 1, c, ?_, ⟨by rw [hj], by rw [hb]; omega, by omega, by omega, hc0, by simp⟩, .inr ⟨rfl, rfl, rfl⟩⟩
      simpa?! [r46, b46, hb, hd, hc0, h9, e2]
    · refine ⟨Ob t r u, t, r, u, _, ?_, nn, .inl rfl⟩
      rw [hb] at e1 ⊢
      simpa?! [r46, b46, hd, hc0, h9, e1]
  · refine ⟨Ob t r u, t, r, u, _, ?_, nn, .inl rfl⟩
    simpa?! [r46, b46, hb, hc0, h9, e1]
/-! ### steps of any length -/
theorem bt_tup_lst (xs : List D) (S : Sto) : btD .tuple [.lst xs] S = .ok (.tup xs) S := rfl
def stm (q : Q4) (d m : Int) : Q4 :=
  if d = 0 then ⟨q.x0 + m, q.x1, q.x2, q.x3⟩ else if d = 1 then ⟨q.x0, q.x1 + m, q.x2, q.x3⟩ else if d = 2 then ⟨q.x0, q.x1, q.x2 + m, q.x3⟩ else if d = 3 then ⟨q.x0, q.x1, q.x2, q.x3 + m⟩
  else if d = 4 then ⟨q.x0 + -m, q.x1, q.x2, q.x3⟩ else if d = 5 then ⟨q.x0, q.x1 + -m, q.x2, q.x3⟩ else if d = 6 then ⟨q.x0, q.x1, q.x2 + -m, q.x3⟩ else ⟨q.x0, q.x1, q.x2, q.x3 + -m⟩
theorem c_gonem (n : Nat) (q : Q4) {d : Int} (h0 : 0 ≤ d) (h7 : d ≤ 7) (m : Int) (S : Sto) : Tk.call P (n+1) 24 [q.d, .int d, .int m] S = .ok (stm q d m).d S := by
  rcases (by omega : d = 0 ∨ d = 1 ∨ d = 2 ∨ d = 3 ∨ d = 4 ∨ d = 5 ∨ d = 6 ∨ d = 7) with h | h | h | h | h | h | h | h <;> subst h <;> unfold Q4.d stm <;> simpa?! [r24, b24]
theorem c_steppedm (n : Nat) (q : Q4) {d : Int} (h0 : 0 ≤ d) (h7 : d ≤ 7) (m : Int) (S : Sto) : Tk.call P (n+4) 25 [q.d, .int d, .int m] S = .ok (stm q d m).d S := by
  simpa?! [r25, b25, c_chk, c_chkd _ h0 h7, c_gonem _ q h0 h7, d_still, d_fz]
theorem c_lstepm (n : Nat) (q : Q4) {d : Int} (h0 : 0 ≤ d) (h7 : d ≤ 7) (m : Int) (S : Sto) : Tk.call P (n+1) 47 [q.d, .int d, .int m] S = .ok (stm q d m).d S := by
  rcases (by omega : d = 0 ∨ d = 1 ∨ d = 2 ∨ d = 3 ∨ d = 4 ∨ d = 5 ∨ d = 6 ∨ d = 7) with h | h | h | h | h | h | h | h <;> subst h <;> unfold Q4.d stm <;> simpa?! [r47, b47, bt_tup_lst, Int.fdiv_one]
theorem stm_b {q : Q4} {m : Nat} (h : Qb q m) {d z : Int} (hz : Bnd z m) : Qb (stm q d z) (m + 1) := by
  obtain ⟨⟨h0⟩, ⟨h1⟩, ⟨h2⟩, ⟨h3⟩⟩ := h
  obtain ⟨hz⟩ := hz
  have e : 2 ^ (m + 1) = 2 ^ m * 2 := Nat.pow_succ 2 m
  unfold stm
  split
  · exact ⟨⟨by show (q.x0 + z).natAbs < _; omega⟩, ⟨by show q.x1.natAbs < _; omega⟩, ⟨by show q.x2.natAbs < _; omega⟩, ⟨by show q.x3.natAbs < _; omega⟩⟩
  split
  · exact ⟨⟨by show q.x0.natAbs < _; omega⟩, ⟨by show (q.x1 + z).natAbs < _; omega⟩, ⟨by show q.x2.natAbs < _; omega⟩, ⟨by show q.x3.natAbs < _; omega⟩⟩
  split
  · exact ⟨⟨by show q.x0.natAbs < _; omega⟩, ⟨by show q.x1.natAbs < _; omega⟩, ⟨by show (q.x2 + z).natAbs < _; omega⟩, ⟨by show q.x3.natAbs < _; omega⟩⟩
  split
  · exact ⟨⟨by show q.x0.natAbs < _; omega⟩, ⟨by show q.x1.natAbs < _; omega⟩, ⟨by show q.x2.natAbs < _; omega⟩, ⟨by show (q.x3 + z).natAbs < _; omega⟩⟩
  split
  · exact ⟨⟨by show (q.x0 + -z).natAbs < _; omega⟩, ⟨by show q.x1.natAbs < _; omega⟩, ⟨by show q.x2.natAbs < _; omega⟩, ⟨by show q.x3.natAbs < _; omega⟩⟩
  split
  · exact ⟨⟨by show q.x0.natAbs < _; omega⟩, ⟨by show (q.x1 + -z).natAbs < _; omega⟩, ⟨by show q.x2.natAbs < _; omega⟩, ⟨by show q.x3.natAbs < _; omega⟩⟩
  split
  · exact ⟨⟨by show q.x0.natAbs < _; omega⟩, ⟨by show q.x1.natAbs < _; omega⟩, ⟨by show (q.x2 + -z).natAbs < _; omega⟩, ⟨by show q.x3.natAbs < _; omega⟩⟩
  · exact ⟨⟨by show q.x0.natAbs < _; omega⟩, ⟨by show q.x1.natAbs < _; omega⟩, ⟨by show q.x2.natAbs < _; omega⟩, ⟨by show (q.x3 + -z).natAbs < _; omega⟩⟩
/-! ### places and stars: two numbers over 2 -/
structure P2 where
  a : Int
  b : Int
  c : Int
  e : Int
def P2.d (p : P2) : D := .tup [.tup [.int p.a, .int p.b, .int 2], .tup [.int p.c, .int p.e, .int 2]]
theorem p2_still (p : P2) : still p.d = true := rfl
theorem p2_fz (p : P2) : fz p.d = p.d := rfl
theorem p2_fin (p : P2) : finD p.d = p.d := rfl
theorem p2_isow (p : P2) : isOw p.d = false := rfl
theorem p2_nol (p : P2) : nol p.d = true := rfl
def plc (q : Q4) : P2 := ⟨2 * q.x0, q.x1 - q.x3, 2 * q.x2, q.x1 + q.x3⟩
def sta (q : Q4) : P2 := ⟨2 * q.x0, q.x3 - q.x1, -2 * q.x2, q.x1 + q.x3⟩
/-- the point of Roots that tells two numbers -/
inductive Tells (p : P2) : D → Prop where
  | mk {t r u w t2 r2 u2 w2 : Int} (h : Num p.a p.b 2 t r u w) (k : Num p.c p.e 2 t2 r2 u2 w2) : Tells p (.tup [Ob t r u, Ob t2 r2 u2])
theorem tells_ok {p : P2} {x : D} (h : Tells p x) : still x = true ∧ fz x = x ∧ nol x = true ∧ isOw x = false ∧ finD x = x := by
  cases h; exact ⟨rfl, rfl, rfl, rfl, rfl⟩
section
variable {q : Q4} {m : Nat}
theorem c_pl (n : Nat) (hq : Qb q m) (hm : m < 1000) (S : Sto) : ∃ x, Tells (plc q) x ∧ Tk.call P (n+3) 26 [q.d] S = .ok x S := by
  obtain ⟨b0, b1, b2, b3⟩ := hq
  obtain ⟨t, r, u, n1⟩ := num_ex (a := 2 * q.x0) (b := q.x1 - q.x3) (c := 2) (by decide)
  obtain ⟨t2, r2, u2, n2⟩ := num_ex (a := 2 * q.x2) (b := q.x1 + q.x3) (c := 2) (by decide)
  refine ⟨_, .mk (p := plc q) n1 n2, ?_⟩
  have e1 := c_init n (2 * q.x0) (q.x1 - q.x3) 2 (m := 2) (by decide) (by decide)
  have e2 := c_init n (2 * q.x2) (q.x1 + q.x3) 2 (m := 2) (by decide) (by decide)
  have k1 := num_rt n1
  have k2 := num_rt n2
  unfold rt at k1 k2
  injection k1 with _ k1
  injection k2 with _ k2
  rw [k1] at e1
  rw [k2] at e2
  have h1 : m < 100000000 := by omega
  have h2 : Nat.log2 2 + 1 + m < 100000000 := by rw [lg2]; omega
  unfold Q4.d
  simpa?! [r26, b26, e1, e2, h1, h2]
theorem c_st (n : Nat) (hq : Qb q m) (hm : m < 1000) (S : Sto) : ∃ x, Tells (sta q) x ∧ Tk.call P (n+3) 27 [q.d] S = .ok x S := by
  obtain ⟨b0, b1, b2, b3⟩ := hq
  obtain ⟨t, r, u, n1⟩ := num_ex (a := 2 * q.x0) (b := q.x3 - q.x1) (c := 2) (by decide)
  obtain ⟨t2, r2, u2, n2⟩ := num_ex (a := -2 * q.x2) (b := q.x1 + q.x3) (c := 2) (by decide)
  refine ⟨_, .mk (p := sta q) n1 n2, ?_⟩
  have e1 := c_init n (2 * q.x0) (q.x3 - q.x1) 2 (m := 2) (by decide) (by decide)
  have e2 := c_init n (-2 * q.x2) (q.x1 + q.x3) 2 (m := 2) (by decide) (by decide)
  have k1 := num_rt n1
  have k2 := num_rt n2
  unfold rt at k1 k2
  injection k1 with _ k1
  injection k2 with _ k2
  rw [k1] at e1
  rw [k2] at e2
  have h1 : m < 100000000 := by omega
  have h2 : Nat.log2 2 + 1 + m < 100000000 := by rw [lg2]; omega
  unfold Q4.d
  simpa?! [r27, b27, e1, e2, h1, h2]
theorem c_place (n : Nat) (hq : Qb q m) (hm : m < 1000) (S : Sto) : ∃ x, Tells (plc q) x ∧ Tk.call P (n+5) 28 [q.d] S = .ok x S := by
  obtain ⟨x, h, e⟩ := c_pl (n+1) hq hm S
  obtain ⟨h1, h2, h3, h4, h5⟩ := tells_ok h
  exact ⟨x, h, by simpa?! [r28, b28, c_chk, e, h1, h2, h3, h4, h5]⟩
theorem c_star (n : Nat) (hq : Qb q m) (hm : m < 1000) (S : Sto) : ∃ x, Tells (sta q) x ∧ Tk.call P (n+5) 29 [q.d] S = .ok x S := by
  obtain ⟨x, h, e⟩ := c_st (n+1) hq hm S
  obtain ⟨h1, h2, h3, h4, h5⟩ := tells_ok h
  exact ⟨x, h, by simpa?! [r29, b29, c_chk, e, h1, h2, h3, h4, h5]⟩
theorem c_lpl (n : Nat) (hq : Qb q m) (hm : m < 1000) (S : Sto) : Tk.call P (n+1) 43 [q.d] S = .ok (plc q).d S := by
  obtain ⟨b0, b1, b2, b3⟩ := hq
  have h1 : m < 100000000 := by omega
  have h2 : Nat.log2 2 + 1 + m < 100000000 := by rw [lg2]; omega
  unfold Q4.d P2.d plc
  simpa?! [r43, b43, h1, h2]
theorem c_lst (n : Nat) (hq : Qb q m) (hm : m < 1000) (S : Sto) : Tk.call P (n+1) 44 [q.d] S = .ok (sta q).d S := by
  obtain ⟨b0, b1, b2, b3⟩ := hq
  have h1 : m < 100000000 := by omega
  have h2 : Nat.log2 2 + 1 + m < 100000000 := by rw [lg2]; omega
  unfold Q4.d P2.d sta
  simpa?! [r44, b44, h1, h2]
end
theorem c_ispt (n : Nat) {p : P2} {x : D} (h : Tells p x) (S : Sto) : Tk.call P (n+4) 42 [x, .tup [.int p.a, .int p.b, .int 2], .tup [.int p.c, .int p.e, .int 2]] S = .ok (.bl true) S := by
  obtain ⟨h, k⟩ := h
  have e1 := is_ok n h (m := 2) (by decide) S
  have e2 := is_ok n k (m := 2) (by decide) S
  simpa?! [r42, b42, e1, e2]
/-! ### the length of a step -/
theorem num_sqr {A B C E t r u p t2 r2 u2 p2 t3 r3 u3 p3 t4 r4 u4 p4 : Int} (h : Num A B 2 t r u p) (k : Num C E 2 t2 r2 u2 p2) (hw : A * A + 2 * B * B + C * C + 2 * E * E = 4) (h0 : A * B + C * E = 0)
   (n3 : Num (t * t + 2 * r * r) (t * r + r * t) (u * u) t3 r3 u3 p3) (n4 : Num (t2 * t2 + 2 * r2 * r2) (t2 * r2 + r2 * t2) (u2 * u2) t4 r4 u4 p4) :
   r3 * u4 + r4 * u3 = 0 ∧ t3 * u4 + t4 * u3 = 1 * (u3 * u4) := by
  have hp : p3 * p4 * (p * p * (p2 * p2)) ≠ 0 := Int.mul_ne_zero (Int.mul_ne_zero n3.hp n4.hp) (Int.mul_ne_zero (Int.mul_ne_zero h.hp h.hp) (Int.mul_ne_zero k.hp k.hp))
  have g1 := h.ha; have g2 := h.hb; have g3 := h.hc
  have f1 := k.ha; have f2 := k.hb; have f3 := k.hc
  have d1 := n3.ha; have d2 := n3.hb; have d3 := n3.hc
  have c1 := n4.ha; have c2 := n4.hb; have c3 := n4.hc
  have x1 : t3 * p3 * (p * p) = A * A + 2 * B * B := by rw [← d1, g1, g2]; grind
  have x2 : r3 * p3 * (p * p) = 2 * (A * B) := by rw [← d2, g1, g2]; grind
  have x3 : u3 * p3 * (p * p) = 4 := by
    rw [← d3]
    have e : u * u * (p * p) = (u * p) * (u * p) := by grind
    rw [e, ← g3]
    decide
  have y1 : t4 * p4 * (p2 * p2) = C * C + 2 * E * E := by rw [← c1, f1, f2]; grind
  have y2 : r4 * p4 * (p2 * p2) = 2 * (C * E) := by rw [← c2, f1, f2]; grind
  have y3 : u4 * p4 * (p2 * p2) = 4 := by
    rw [← c3]
    have e : u2 * u2 * (p2 * p2) = (u2 * p2) * (u2 * p2) := by grind
    rw [e, ← f3]
    decide
  constructor
  · refine (Int.mul_eq_zero.mp ?_).resolve_right hp
    have e : (r3 * u4 + r4 * u3) * (p3 * p4 * (p * p * (p2 * p2))) = (r3 * p3 * (p * p)) * (u4 * p4 * (p2 * p2)) + (r4 * p4 * (p2 * p2)) * (u3 * p3 * (p * p)) := by grind
    rw [e, x2, y2, x3, y3]
    omega
  · refine Int.eq_of_mul_eq_mul_right hp ?_
    have e : (t3 * u4 + t4 * u3) * (p3 * p4 * (p * p * (p2 * p2))) = (t3 * p3 * (p * p)) * (u4 * p4 * (p2 * p2)) + (t4 * p4 * (p2 * p2)) * (u3 * p3 * (p * p)) := by grind
    have f : 1 * (u3 * u4) * (p3 * p4 * (p * p * (p2 * p2))) = (u3 * p3 * (p * p)) * (u4 * p4 * (p2 * p2)) := by grind
    rw [e, f, x1, y1, x3, y3]
    omega
/-- two points' difference, of length one -/
structure Uni (p o : P2) : Prop where
  h1 : (p.a - o.a) * (p.a - o.a) + 2 * (p.b - o.b) * (p.b - o.b) + (p.c - o.c) * (p.c - o.c) + 2 * (p.e - o.e) * (p.e - o.e) = 4
  h2 : (p.a - o.a) * (p.b - o.b) + (p.c - o.c) * (p.e - o.e) = 0
theorem u_pl (q : Q4) {d : Int} (h0 : 0 ≤ d) (h7 : d ≤ 7) : Uni (plc (stm q d 1)) (plc q) := by
  rcases (by omega : d = 0 ∨ d = 1 ∨ d = 2 ∨ d = 3 ∨ d = 4 ∨ d = 5 ∨ d = 6 ∨ d = 7) with h | h | h | h | h | h | h | h <;> subst h <;> refine ⟨?_, ?_⟩ <;> simp (config := { decide := true }) only [plc, stm, if_true, if_false] <;> grind
theorem u_st (q : Q4) {d : Int} (h0 : 0 ≤ d) (h7 : d ≤ 7) : Uni (sta (stm q d 1)) (sta q) := by
  rcases (by omega : d = 0 ∨ d = 1 ∨ d = 2 ∨ d = 3 ∨ d = 4 ∨ d = 5 ∨ d = 6 ∨ d = 7) with h | h | h | h | h | h | h | h <;> subst h <;> refine ⟨?_, ?_⟩ <;> simp (config := { decide := true }) only [sta, stm, if_true, if_false] <;> grind
end Pg
set_option exponentiation.threshold 300
namespace Pg
open Tk
theorem ci_tup (cl : Cl) (xs : List D) (y : D) (S : Sto) : cmpD P cl .isn (.tup xs) y S = .ok (.bl false) S := rfl
theorem ci_q (cl : Cl) (q : Q4) (y : D) (S : Sto) : cmpD P cl .isn q.d y S = .ok (.bl false) S := rfl
theorem cn_tup (cl : Cl) (xs : List D) (y : D) (S : Sto) : cmpD P cl .notn (.tup xs) y S = .ok (.bl true) S := rfl
theorem cn_q (cl : Cl) (q : Q4) (y : D) (S : Sto) : cmpD P cl .notn q.d y S = .ok (.bl true) S := rfl
theorem cn_non (cl : Cl) (y : D) (S : Sto) : cmpD P cl .notn .non y S = .ok (.bl false) S := rfl
local macro_rules | `(tactic| simpa?! [$as,*]) => `(tactic| simp (config := { decide := true, implicitDefEqProofs := false }) only [still_non, fz_non, finD_non, still_bl, fz_bl, finD_bl, still_int, fz_int, finD_int, still_str, fz_str, finD_str, still_tup, fz_tup, finD_tup, still_lst, fz_lst, finD_lst, still_obj, fz_obj, finD_obj, still_dic0, fz_dic0, finD_dic0, still_loc, fz_loc, finD_loc, still_new, u_fz_new, finD_new, finD_own, fz_own, still_own, still_exn, nol_non, nol_bl, nol_int, nol_str, nol_dic0, nol_obj, nol_tup, nol_lst, nols_nil, nols_cons, truth_non, truth_bl, truth_int, truth_tup, seqOf_tup, itOf_tup, truth_lst, seqOf_lst, itOf_lst, isL_lst, truth_new, seqOf_new, itOf_new, isL_new, truth_own, seqOf_own, itOf_own, isL_own, itList_fix, isOw_own, isOw_non, isOw_bl, isOw_int, isOw_str, isOw_tup, isOw_obj, isOw_dic0, isOw_loc, isOw_exn, isOw_new, isOw_lst, isOw_scr, itW_t, itW_f, itList_ow, varD_val, varD_own, bind_ok, bind_err, b_ok, b_err, o_next, o_ret, o_brk, o_cont, o_err, noErr_o, fzs_of, binD_int, binI_add, binI_sub, binI_mul, binI_mod, binI_fdiv, binI_pow, kTup_of, kLst_of, kCall_of, kMake_of, mkD_ok, mkD_err, kAnd_tt, kAnd_tf, kAnd_ft, kAnd_ff, kIte_t, kIte_f, kNot_bl, sIte_t, sIte_f, sIte_ot, sIte_of, kNeg_int, kIsi_eq, kIsi_eqX, isiR_some, cmp_lt, cmp_le, cmp_gt, cmp_ge, cmp_eq_int, cmp_ne_int, cmp_eq_bl, cmp_ne_bl, bt_abs, bt_int, bt_int_bl, bt_tuple_tup, fin_ret, fin_next, fin_err, sSet_of, sSetO_of, sSetL_of, sPar2_of, sItem3_of, stOw_own, sAppO_of, sItemO2_of, sItemO_eq, retOw_own, ownC_own, stO_some, stL_some, sApp2_of, appD_of, frzD_own, sRaise_of, sFor_fix, forF_nil, forF_cons, forK_next, forK_cont, forK_brk, forK_ret, forK_err, bindT_nm, lcF_nil, lcF_cons, lcAcc_some, lcAcc_none, lcEnd_of, kSeq_loc, dynD_lst, kRng1_of, kSl_def, kSl2_def, List.map_cons, List.map_nil, List.cons_append, List.nil_append, List.length_cons, List.length_nil, List.replicate, List.getElem?_cons_zero, List.getElem?_cons_succ, List.set_cons_zero, List.set_cons_succ, List.length_set, List.all_cons, List.all_nil, Bool.and_true, Bool.and_self, Bool.not_true, Bool.not_false, if_true, if_false, Nat.reduceAdd, Nat.reduceSub, Nat.reduceLT, Nat.reduceEqDiff, decide_true, decide_false, Int.reduceNeg, evE_0, evE_1, evE_2, evE_3, evE_4, evE_5, evE_6, evE_7, evE_8, evE_9, evE_10, evE_11, evE_12, evE_13, evE_14, evE_15, evE_16, evE_17, evE_18, evE_19, evE_20, evE_21, evE_22, evE_23, evE_24, evE_25, evE_26, evEs_0, evEs_1, evAnd_0, evAnd_1, evAnd_2, evI_0, evI_1, evI_2, evI_3, evI_4, evI_5, kRev_lst, kRev_new, kEnum_tup, kEnum_lst, kEnum_new, enumD4, evS_0, evS_1, evS_2, evS_3, evS_4, evS_5, evS_6, evS_7, evS_8, evS_9, evS_10, evS_11, evS_12, evS_13, evS_14, evS_15, evS_16, evS_17, evS_18, evS_19, hasX_nil, hasX_emp, hasX_val, hasX_own, nxC_of, clrE_none, clrE_some, clr_next, clr_brk, clr_cont, clr_ret, hdlE_none, hdlE_some, varD_exc, evS_20, evS_21, evS_22, evB_0, evB_1, evB_2, kBin_eq, kCmp_eq, kChain_eq, kChainB_eq, kCons_eq, kCons2_eq, kIx_eq, kMeth_eq, kMeth1_eq, sPar_eq, sAttr_eq, sItem_eq, sItem2_eq, sApp_loc, sAppC_lst, sExpr_eq, sRet_of, forStep_eq, lcStep_eq, kRng2_eq, kZip_eq, forB_some, lcIn_some, lcTest_t, lcTest_f, wipeE_nil, wipeE_cons, setAll_nil, setAll_cons, bindT_tp, bindT_tpn, bindT_tpl, sSetT_tup, sSetT_new, sSetT_lst, nextO_some, kInt_int, kTest_bl, kChainC_t, kChainC_f, CE.isNul, optI_t, optI_f, tstC_t, tstC_f, ne_eq, not_false_eq_true, kSeq_tup, kSeq_lst, kSeq_new, kSeq_scr, kSeq_own, ixD_eq, ixS_some, ixR_some, seqOf_locq, seqC_lst, ln_tup, ln_lst, ln_new, ln_own, ln_scr, ln_loc, lenR_some, bt_listq, listR_some, storD_locq, storC_lst, putD_eq, attr_objq, attr_exnq, attr_locq, attrC_ins, fldR_some, setaD_loc, setaC_ins, setaF_some, kComp_fix, kComp_ow, kMeth2_still, kNot_q, notR_some, sl_scr, sl_lst, sl_new, sl_own, cmp_own_l, cmp_own_r, eqK_some, kNeg_q, negK_some, Option.isSome_some, eq_self, beq_self_eq_true,  cmp_eq_str, cmpOk_obj, isi_obj_ty, isi_obj_own, isi_exn_own, isi_exn_ve, L2.atI, L2.ixN, Option.bind_some, Option.map_some, Int.reduceToNat, still_scr, fz_scr, binD_oo, binD_oi, binD_io, binL_obj, binL_int, binRt_some, rOk_add, rOk_sub, rOk_mul, whT_t, whT_f, whK_next, whK_cont, whK_brk, whK_ret, cmp_isn_non, cmp_isb, cmp_isnb, kBl_bl, sAttr2_of, nextS_some, sTry_next, sTry_ret, u_sTry_err, hasX_exc, isX_f1, seqOf_scr, cmp_eq_dic, isi_non_int, isi_non_bool, isi_non_str, isi_non_tuple, isi_non_list, isi_non_dict, isi_non_own, cmpOk_non, eqOf_non, isi_bl_int, isi_bl_bool, isi_bl_str, isi_bl_tuple, isi_bl_list, isi_bl_dict, isi_bl_own, cmpOk_bl, eqOf_bl, isi_int_int, isi_int_bool, isi_int_str, isi_int_tuple, isi_int_list, isi_int_dict, isi_int_own, cmpOk_int, eqOf_int, isi_str_int, isi_str_bool, isi_str_str, isi_str_tuple, isi_str_list, isi_str_dict, isi_str_own, cmpOk_str, eqOf_str, isi_tup_int, isi_tup_bool, isi_tup_str, isi_tup_tuple, isi_tup_list, isi_tup_dict, isi_tup_own, cmpOk_tup, eqOf_tup, isi_lst_int, isi_lst_bool, isi_lst_str, isi_lst_tuple, isi_lst_list, isi_lst_dict, isi_lst_own, cmpOk_lst, eqOf_lst, isi_new_int, isi_new_bool, isi_new_str, isi_new_tuple, isi_new_list, isi_new_dict, isi_new_own, cmpOk_new, eqOf_new, isi_loc_int, isi_loc_bool, isi_loc_str, isi_loc_tuple, isi_loc_list, isi_loc_dict, isi_loc_own, isi_dic_int, isi_dic_bool, isi_dic_str, isi_dic_tuple, isi_dic_list, isi_dic_dict, isi_dic_own, cmpOk_dic, eqOf_dic, leftOk_int, leftOk_bl, p_exc0, p_nf0, p_exc1, p_nf1, p_f1_6, p_exc2, p_nf2, p_f2_5, p_exc3, p_nf3, p_f3_3, p_exc4, p_nf4, p_f4_4, p_cls5, p_nf5, p_f5_0, p_f5_1, p_f5_2, p_eq5, p_op5_add, p_op5_sub, p_op5_mul, p_neg5, p_sub0_0, p_in0_0, p_sub0_1, p_in0_1, p_sub0_2, p_in0_2, p_sub0_3, p_in0_3, p_sub0_4, p_in0_4, p_sub1_0, p_in1_0, p_sub1_1, p_in1_1, p_sub1_2, p_in1_2, p_sub1_3, p_in1_3, p_sub1_4, p_in1_4, p_sub2_0, p_in2_0, p_sub2_1, p_in2_1, p_sub2_2, p_in2_2, p_sub2_3, p_in2_3, p_sub2_4, p_in2_4, p_sub3_0, p_in3_0, p_sub3_1, p_in3_1, p_sub3_2, p_in3_2, p_sub3_3, p_in3_3, p_sub3_4, p_in3_4, p_sub4_0, p_in4_0, p_sub4_1, p_in4_1, p_sub4_2, p_in4_2, p_sub4_3, p_in4_3, p_sub4_4, p_in4_4, noErr_ok, Int.reduceSub, bt_tup_new, rngD4, bin_rep4, cut43, bq_tt, bq_tf, bq_ft, bq_ff, Bool.and_true, Bool.and_false, Bool.true_and, Bool.false_and, zipB_tup, bt_all4, sl_tup, c4_h0, c4_h1, c4_h2, c4_h3, c4_l1, c4_l2, c4_l3, c4_l4, bin_tt, ci_tup, ci_q, cn_tup, cn_q, cn_non, p2_still, p2_fz, p2_fin, p2_isow, p2_nol, d_isow, d_fin, d_still, d_fz, d_nol, md4_0, md4_1, md4_2, md4_3, md4_4, md4_5, md4_6, md4_7, Int.reduceAdd, List.append_nil, List.nil_append, $as,*])
theorem fdl (a : Int) {u : Int} (hu : 0 < u) : (a.fdiv u).natAbs ≤ a.natAbs := by
  rw [Int.fdiv_eq_ediv_of_nonneg _ (by omega)]
  exact Int.natAbs_ediv_le_natAbs a u
/-! ### the length of a step, walked -/
theorem c_tk (n : Nat) {p o : P2} {x y : D} (hx : Tells p x) (hy : Tells o y) {m : Nat} (p1 : Bnd p.a m) (p2 : Bnd p.b m) (p3 : Bnd p.c m) (p4 : Bnd p.e m) (o1 : Bnd o.a m) (o2 : Bnd o.b m) (o3 : Bnd o.c m) (o4 : Bnd o.e m) (h2 : 2 ≤ m) (hm : m < 3000) (S : Sto) :
    ∃ t r u w t2 r2 u2 w2, Num (p.a - o.a) (p.b - o.b) 2 t r u w ∧ Num (p.c - o.c) (p.e - o.e) 2 t2 r2 u2 w2 ∧ Tk.call P (n+5) 18 [x, y] S = .ok (.tup [Ob t r u, Ob t2 r2 u2]) S := by
  obtain ⟨h, k⟩ := hx
  obtain ⟨h', k'⟩ := hy
  rename_i t r u w t2 r2 u2 w2 t' r' u' w' t2' r2' u2' w2'
  have b2 : Bnd (2 : Int) m := Bnd.mono (n := 2) ⟨by decide⟩ h2
  have a1 : Bnd t m := num_tle h p1
  have a2 : Bnd r m := num_rle h p2
  have a3 : Bnd u m := num_ule h b2
  have a4 : Bnd t2 m := num_tle k p3
  have a5 : Bnd r2 m := num_rle k p4
  have a6 : Bnd u2 m := num_ule k b2
  have c1 : Bnd t' m := num_tle h' o1
  have c2 : Bnd r' m := num_rle h' o2
  have c3 : Bnd u' m := num_ule h' b2
  have c4 : Bnd t2' m := num_tle k' o3
  have c5 : Bnd r2' m := num_rle k' o4
  have c6 : Bnd u2' m := num_ule k' b2
  have u1 := h.hu
  have u3 := k.hu
  have u1' := h'.hu
  have u3' := k'.hu
  have key : ∀ {A B A' B' t r u w t' r' u' w' : Int}, Num A B 2 t r u w → Num A' B' 2 t' r' u' w' → ∃ T R U W, rt (t * u' - t' * u) (r * u' - r' * u) (u * u') = Ob T R U ∧ Num (A - A') (B - B') 2 T R U W := by
    intro A B A' B' t r u w t' r' u' w' h h'
    have v := h.hu
    have v' := h'.hu
    obtain ⟨T, R, U, n3⟩ := num_ex (a := t * u' - t' * u) (b := r * u' - r' * u) (c := u * u') (Int.mul_ne_zero (by omega) (by omega))
    have n4 := num_mul n3 (q := w * w') (Int.mul_ne_zero h.hp h'.hp)
    have g1 := h.ha; have g2 := h.hb; have g3 := h.hc
    have f1 := h'.ha; have f2 := h'.hb; have f3 := h'.hc
    obtain ⟨W, n5⟩ := num_back (x := A - A') (y := B - B') (z := 2) (q := 2) n4 (by decide) (by
      have e : (t * u' - t' * u) * (w * w') = (t * w) * (u' * w') - (t' * w') * (u * w) := by grind
      rw [e, ← g1, ← g3, ← f1, ← f3]; omega) (by
      have e : (r * u' - r' * u) * (w * w') = (r * w) * (u' * w') - (r' * w') * (u * w) := by grind
      rw [e, ← g2, ← g3, ← f2, ← f3]; omega) (by
      have e : u * u' * (w * w') = (u * w) * (u' * w') := by grind
      rw [e, ← g3, ← f3])
    exact ⟨T, R, U, W, num_rt n3, n5⟩
  obtain ⟨T, R, U, W, q1, n1⟩ := key h h'
  obtain ⟨T2, R2, U2, W2, q2, n2⟩ := key k k'
  have e1 := x_sub n (m := m) hm (.inl rfl : Rp (Ob t r u) t r u) (.inl rfl : Rp (Ob t' r' u') t' r' u') u1 u1' (.inl ⟨_, _, _, rfl⟩) S
  have e2 := x_sub n (m := m) hm (.inl rfl : Rp (Ob t2 r2 u2) t2 r2 u2) (.inl rfl : Rp (Ob t2' r2' u2') t2' r2' u2') u3 u3' (.inl ⟨_, _, _, rfl⟩) S
  rw [q1] at e1
  rw [q2] at e2
  have a1 := c_asO (n+1) [.int t, .int r, .int u] S
  have a2 := c_asO (n+1) [.int t2, .int r2, .int u2] S
  refine ⟨_, _, _, _, _, _, _, _, n1, n2, ?_⟩
  simpa?! [r18, b18, a1, a2, e1, e2]
theorem bnd_sq {t r : Int} {m : Nat} (ht : Bnd t m) (hr : Bnd r m) : Bnd (t * t + 2 * r * r) (2 * m + 10) := by
  rw [show t * t + 2 * r * r = t * t + (r * r + r * r) by grind]
  exact Bnd.mono (n := max (m + m) (max (m + m) (m + m) + 1) + 1) inferInstance (by omega)
theorem c_sq (n : Nat) {A B C E t r u w t2 r2 u2 w2 : Int} (h : Num A B 2 t r u w) (k : Num C E 2 t2 r2 u2 w2) {m : Nat} (p1 : Bnd A m) (p2 : Bnd B m) (p3 : Bnd C m) (p4 : Bnd E m) (h2 : 2 ≤ m) (hm : m < 1000)
    (hw : A * A + 2 * B * B + C * C + 2 * E * E = 4) (h0 : A * B + C * E = 0) (S : Sto) : Tk.call P (n+5) 19 [.tup [Ob t r u, Ob t2 r2 u2]] S = .ok (Ob 1 0 1) S := by
  have b2 : Bnd (2 : Int) m := Bnd.mono (n := 2) ⟨by decide⟩ h2
  have a1 : Bnd t m := num_tle h p1
  have a2 : Bnd r m := num_rle h p2
  have a3 : Bnd u m := num_ule h b2
  have a4 : Bnd t2 m := num_tle k p3
  have a5 : Bnd r2 m := num_rle k p4
  have a6 : Bnd u2 m := num_ule k b2
  have u1 := h.hu
  have u3 := k.hu
  obtain ⟨t3, r3, u3', n3⟩ := num_ex (a := t * t + 2 * r * r) (b := t * r + r * t) (c := u * u) (Int.mul_ne_zero (by omega) (by omega))
  obtain ⟨t4, r4, u4, n4⟩ := num_ex (a := t2 * t2 + 2 * r2 * r2) (b := t2 * r2 + r2 * t2) (c := u2 * u2) (Int.mul_ne_zero (by omega) (by omega))
  have v1 := n3.hu
  have v2 := n4.hu
  obtain ⟨z1, z2⟩ := num_sqr h k hw h0 n3 n4
  obtain ⟨T, R, U, n5⟩ := num_ex (a := t3 * u4 + t4 * u3') (b := r3 * u4 + r4 * u3') (c := u3' * u4) (Int.mul_ne_zero (by omega) (by omega))
  have q5 := num_whole n5 (w := 1)
  rw [z1, z2] at q5
  simp only [decide_true, Bool.and_true, Bool.and_eq_true, decide_eq_true_eq] at q5
  obtain ⟨rfl, rfl, rfl⟩ := q5
  have d1 : Bnd t3 (2 * m + 10) := num_tle n3 (bnd_sq a1 a2)
  have d2 : Bnd r3 (2 * m + 10) := num_rle n3 (Bnd.mono (n := max (m + m) (m + m) + 1) inferInstance (by omega))
  have d3 : Bnd u3' (2 * m + 10) := num_ule n3 (Bnd.mono (n := m + m) inferInstance (by omega))
  have d4 : Bnd t4 (2 * m + 10) := num_tle n4 (bnd_sq a4 a5)
  have d5 : Bnd r4 (2 * m + 10) := num_rle n4 (Bnd.mono (n := max (m + m) (m + m) + 1) inferInstance (by omega))
  have d6 : Bnd u4 (2 * m + 10) := num_ule n4 (Bnd.mono (n := m + m) inferInstance (by omega))
  have e1 := x_mul n (m := m) (by omega) (.inl rfl : Rp (Ob t r u) t r u) (.inl rfl : Rp (Ob t r u) t r u) u1 u1 (.inl ⟨_, _, _, rfl⟩) S
  have e2 := x_mul n (m := m) (by omega) (.inl rfl : Rp (Ob t2 r2 u2) t2 r2 u2) (.inl rfl : Rp (Ob t2 r2 u2) t2 r2 u2) u3 u3 (.inl ⟨_, _, _, rfl⟩) S
  have e3 := x_add n (m := 2 * m + 10) (by omega) (.inl rfl : Rp (Ob t3 r3 u3') t3 r3 u3') (.inl rfl : Rp (Ob t4 r4 u4) t4 r4 u4) v1 v2 (.inl ⟨_, _, _, rfl⟩) S
  rw [num_rt n3] at e1
  rw [num_rt n4] at e2
  rw [num_rt n5] at e3
  have a1 := c_asO (n+1) [.int t, .int r, .int u] S
  have a2 := c_asO (n+1) [.int t2, .int r2, .int u2] S
  simpa?! [r19, b19, a1, a2, e1, e2, e3]
/-- the square of the difference of two points of length one -/
theorem c_one (n : Nat) {p o : P2} {x y : D} (hx : Tells p x) (hy : Tells o y) {m : Nat} (p1 : Bnd p.a m) (p2 : Bnd p.b m) (p3 : Bnd p.c m) (p4 : Bnd p.e m) (o1 : Bnd o.a m) (o2 : Bnd o.b m) (o3 : Bnd o.c m) (o4 : Bnd o.e m) (h2 : 2 ≤ m) (hm : m < 900) (hu : Uni p o) (S : Sto) :
    ∃ z, still z = true ∧ fz z = z ∧ Tk.call P (n+5) 18 [x, y] S = .ok z S ∧ Tk.call P (n+5) 19 [z] S = .ok (Ob 1 0 1) S := by
  obtain ⟨t, r, u, w, t2, r2, u2, w2, n1, n2, e⟩ := c_tk n hx hy p1 p2 p3 p4 o1 o2 o3 o4 h2 (by omega) S
  have b : ∀ {i j : Int}, Bnd i m → Bnd j m → Bnd (i - j) (m + 1) := fun {i j} hi hj => Bnd.mono (n := max m m + 1) inferInstance (by omega)
  exact ⟨_, rfl, rfl, e, c_sq n n1 n2 (b p1 o1) (b p2 o2) (b p3 o3) (b p4 o4) (by omega) (by omega) hu.h1 hu.h2 S⟩
/-! ### the whole parts of a number -/
def pD (t r u : Int) : D := if t.fmod u = 0 ∧ (2 * r).fmod u = 0 then .tup [.int (t.fdiv u), .int ((2 * r).fdiv u)] else .non
theorem pd_or (t r u : Int) : pD t r u = .non ∨ ∃ a b, pD t r u = .tup [.int a, .int b] := by
  unfold pD
  split
  · exact .inr ⟨_, _, rfl⟩
  · exact .inl rfl
theorem c_parts (n : Nat) {t r u : Int} {m : Nat} [Bnd t m] [Bnd r m] [Bnd u m] (hm : m < 8000) (hu : 0 < u) (S : Sto) : Tk.call P (n+1) 31 [Ob t r u] S = .ok (pD t r u) S := by
  have hu0 : u ≠ 0 := by omega
  have h9 : m < 9000 := by omega
  have h3 : Nat.log2 2 + 1 + m < 100000000 := by rw [lg2]; omega
  have h4 : Nat.log2 2 + 1 + m < 9000 := by rw [lg2]; omega
  have f1 := fm_nn t hu
  have f2 := fm_nn (2 * r) hu
  unfold pD
  by_cases h1 : t.fmod u = 0
  · by_cases h2 : (2 * r).fmod u = 0
    · rw [if_pos ⟨h1, h2⟩]
      simpa?! [r31, b31, h1, h2, hu0, h9, h3, h4]
    · have g : 0 < (2 * r).fmod u := by omega
      rw [if_neg (fun z => h2 z.2)]
      simpa?! [r31, b31, h1, g, gt_iff_lt, hu0, h9, h3, h4]
  · have g : 0 < t.fmod u := by omega
    rw [if_neg (fun z => h1 z.1)]
    simpa?! [r31, b31, g, gt_iff_lt, hu0, h9, h3, h4]
theorem c_lwp (n : Nat) {A B C t r u p : Int} (h : Num A B C t r u p) {m : Nat} [hA : Bnd A m] [hB : Bnd B m] [hC : Bnd C m] (hm : m < 7900) (S : Sto) : Tk.call P (n+3) 52 [.tup [.int A, .int B, .int C]] S = .ok (pD t r u) S := by
  have hc := num_c0 h
  obtain ⟨d1, d2, d3⟩ := num_fd h
  have e := c_low n A B C (m := m) (by omega) hc S
  rw [d1, d2, d3] at e
  have a1 : Bnd t m := num_tle h hA
  have a2 : Bnd r m := num_rle h hB
  have a3 : Bnd u m := num_ule h hC
  have hu := h.hu
  have hu0 : u ≠ 0 := by omega
  have h9 : m < 9000 := by omega
  have h3 : Nat.log2 2 + 1 + m < 100000000 := by rw [lg2]; omega
  have h4 : Nat.log2 2 + 1 + m < 9000 := by rw [lg2]; omega
  unfold pD
  by_cases h1 : t.fmod u = 0
  · by_cases h2 : (2 * r).fmod u = 0
    · rw [if_pos ⟨h1, h2⟩]
      simpa?! [r52, b52, e, h1, h2, hu0, h9, h3, h4]
    · rw [if_neg (fun z => h2 z.2)]
      simpa?! [r52, b52, e, h1, h2, hu0, h9, h3, h4]
  · rw [if_neg (fun z => h1 z.1)]
    simpa?! [r52, b52, e, h1, hu0, h9, h3, h4]
/-! ### a corner of its parts -/
def fpD (a b c e : Int) : D := if (b + e).fmod 2 = 1 then .non else .tup [.int a, .int ((e + b).fdiv 2), .int c, .int ((e - b).fdiv 2)]
theorem fp_or (a b c e : Int) : fpD a b c e = .non ∨ ∃ q : Q4, fpD a b c e = q.d := by
  unfold fpD
  split
  · exact .inl rfl
  · exact .inr ⟨⟨_, _, _, _⟩, rfl⟩
theorem c_fp (n : Nat) (a b c e : Int) (S : Sto) : Tk.call P (n+1) 30 [.int a, .int b, .int c, .int e] S = .ok (fpD a b c e) S := by
  unfold fpD
  by_cases h : (b + e).fmod 2 = 1
  · rw [if_pos h]
    simpa?! [r30, b30, h]
  · rw [if_neg h]
    simpa?! [r30, b30, h]
def coA : D → D → D
  | .tup [.int a, .int b], .tup [.int c, .int e] => fpD a b c e
  | _, _ => .non
def coW : D → D → D
  | .tup [.int a, .int b], .tup [.int c, .int e] => fpD a (-b) (-c) e
  | _, _ => .non
theorem par_neg (b e : Int) : ((-b + e).fmod 2 = 1) ↔ ((b + e).fmod 2 = 1) := by
  rw [Int.fmod_eq_emod_of_nonneg _ (by decide), Int.fmod_eq_emod_of_nonneg _ (by decide)]
  omega
section
variable {x y : D} {t r u t2 r2 u2 : Int} {m : Nat} [Bnd t m] [Bnd r m] [Bnd u m] [Bnd t2 m] [Bnd r2 m] [Bnd u2 m]
theorem c_cat (n : Nat) (hx : Rp x t r u) (hy : Rp y t2 r2 u2) (hu : 0 < u) (hu2 : 0 < u2) (hm : m < 8000) (S : Sto) : Tk.call P (n+7) 32 [.tup [x, y]] S = .ok (coA (pD t r u) (pD t2 r2 u2)) S := by
  have e0 := c_point n hx hy S
  have e1 := c_parts (n+5) (t := t) (r := r) (u := u) hm hu S
  have e2 := c_parts (n+5) (t := t2) (r := r2) (u := u2) hm hu2 S
  rcases pd_or t r u with z | ⟨a, b, z⟩ <;> rcases pd_or t2 r2 u2 with z' | ⟨c, e, z'⟩ <;> rw [z] at e1 <;> rw [z'] at e2 <;> rw [z, z']
  · simpa?! [r32, b32, e0, e1, e2, coA]
  · simpa?! [r32, b32, e0, e1, e2, coA]
  · simpa?! [r32, b32, e0, e1, e2, coA]
  · have e3 := c_fp (n+5) a b c e S
    have e4 : coA (.tup [.int a, .int b]) (.tup [.int c, .int e]) = fpD a b c e := rfl
    rw [e4]
    rcases fp_or a b c e with k | ⟨q, k⟩ <;> rw [k] at e3 ⊢ <;> simpa?! [r32, b32, e0, e1, e2, e3]
theorem c_cwt (n : Nat) (hx : Rp x t r u) (hy : Rp y t2 r2 u2) (hu : 0 < u) (hu2 : 0 < u2) (hm : m < 8000) (S : Sto) : Tk.call P (n+7) 33 [.tup [x, y]] S = .ok (coW (pD t r u) (pD t2 r2 u2)) S := by
  have e0 := c_point n hx hy S
  have e1 := c_parts (n+5) (t := t) (r := r) (u := u) hm hu S
  have e2 := c_parts (n+5) (t := t2) (r := r2) (u := u2) hm hu2 S
  rcases pd_or t r u with z | ⟨a, b, z⟩ <;> rcases pd_or t2 r2 u2 with z' | ⟨c, e, z'⟩ <;> rw [z] at e1 <;> rw [z'] at e2 <;> rw [z, z']
  · simpa?! [r33, b33, e0, e1, e2, coW]
  · simpa?! [r33, b33, e0, e1, e2, coW]
  · simpa?! [r33, b33, e0, e1, e2, coW]
  · have e3 := c_fp (n+5) a (-b) (-c) e S
    have e4 : coW (.tup [.int a, .int b]) (.tup [.int c, .int e]) = fpD a (-b) (-c) e := rfl
    rw [e4]
    rcases fp_or a (-b) (-c) e with k | ⟨q, k⟩ <;> rw [k] at e3 ⊢ <;> simpa?! [r33, b33, e0, e1, e2, e3]
end
section
variable {A B C A2 B2 C2 t r u p t2 r2 u2 p2 : Int} {m : Nat}
theorem c_lco (n : Nat) (h : Num A B C t r u p) (k : Num A2 B2 C2 t2 r2 u2 p2) [hA : Bnd A m] [hB : Bnd B m] [hC : Bnd C m] [hA2 : Bnd A2 m] [hB2 : Bnd B2 m] [hC2 : Bnd C2 m] (hm : m < 7900) (s : Bool) (S : Sto) :
    Tk.call P (n+4) 53 [.tup [.int A, .int B, .int C], .tup [.int A2, .int B2, .int C2], .bl s] S = .ok (bif s then coW (pD t r u) (pD t2 r2 u2) else coA (pD t r u) (pD t2 r2 u2)) S := by
  have e1 := c_lwp n h (m := m) hm S
  have e2 := c_lwp n k (m := m) hm S
  have bt : Bnd t m := num_tle h hA
  have br : Bnd r m := num_rle h hB
  have bt2 : Bnd t2 m := num_tle k hA2
  have br2 : Bnd r2 m := num_rle k hB2
  have hb : ∀ {t r u a b : Int}, 0 < u → Bnd t m → Bnd r m → pD t r u = .tup [.int a, .int b] → Bnd a (m + 2) ∧ Bnd b (m + 2) := by
    intro t r u a b hu ht hr z
    unfold pD at z
    split at z
    · injection z with z
      injection z with z1 z
      injection z1 with z1
      injection z with z2 _
      injection z2 with z2
      have q1 := fdl t hu
      have q2 := fdl (2 * r) hu
      have e : 2 ^ (m + 2) = 2 ^ m * 4 := by rw [Nat.pow_add]
      have ht := ht.h
      have hr := hr.h
      rw [z1] at q1
      rw [z2] at q2
      exact ⟨⟨by omega⟩, ⟨by omega⟩⟩
    · cases z
  rcases pd_or t r u with z | ⟨a, b, z⟩
  · rw [z] at e1 ⊢
    rcases pd_or t2 r2 u2 with z' | ⟨c, e, z'⟩ <;> rw [z'] at e2 ⊢ <;> cases s <;> simpa?! [r53, b53, e1, e2, coA, coW, cond_true, cond_false]
  rcases pd_or t2 r2 u2 with z' | ⟨c, e, z'⟩
  · rw [z] at e1 ⊢
    rw [z'] at e2 ⊢
    cases s <;> simpa?! [r53, b53, e1, e2, coA, coW, cond_true, cond_false]
  obtain ⟨ba, bb⟩ := hb h.hu bt br z
  obtain ⟨bc, be⟩ := hb k.hu bt2 br2 z'
  have m1 : ∀ {z : Int}, Bnd z (m + 2) → binI .mul 1 z S = .ok (.int z) S := fun {z} b => by
    have b1 : Bnd (1 : Int) 1 := ⟨by decide⟩
    rw [binI_mul (n := 1) (m := m + 2) (by omega), Int.one_mul]
  have m2 : ∀ {z : Int}, Bnd z (m + 2) → binI .mul (-1) z S = .ok (.int (-z)) S := fun {z} b => by
    have b1 : Bnd (-1 : Int) 1 := ⟨by decide⟩
    rw [binI_mul (n := 1) (m := m + 2) (by omega), show -1 * z = -z by omega]
  rw [z] at e1 ⊢
  rw [z'] at e2 ⊢
  have e4 : coA (.tup [.int a, .int b]) (.tup [.int c, .int e]) = fpD a b c e := rfl
  have e5 : coW (.tup [.int a, .int b]) (.tup [.int c, .int e]) = fpD a (-b) (-c) e := rfl
  rw [e4, e5]
  unfold fpD
  by_cases hp : (b + e).fmod 2 = 1
  · rw [if_pos hp, if_pos ((par_neg b e).mpr hp)]
    cases s <;> simpa?! [r53, b53, e1, e2, hp, cond_true, cond_false]
  · rw [if_neg hp, if_neg (fun z => hp ((par_neg b e).mp z))]
    cases s
    · simpa?! [r53, b53, e1, e2, hp, cond_true, cond_false, m1 bb, m1 bc]
    · simpa?! [r53, b53, e1, e2, hp, cond_true, cond_false, m2 bb, m2 bc]
end
end Pg
set_option exponentiation.threshold 300
namespace Pg
open Tk
local macro_rules | `(tactic| simpa?! [$as,*]) => `(tactic| simp (config := { decide := true, implicitDefEqProofs := false }) only [still_non, fz_non, finD_non, still_bl, fz_bl, finD_bl, still_int, fz_int, finD_int, still_str, fz_str, finD_str, still_tup, fz_tup, finD_tup, still_lst, fz_lst, finD_lst, still_obj, fz_obj, finD_obj, still_dic0, fz_dic0, finD_dic0, still_loc, fz_loc, finD_loc, still_new, u_fz_new, finD_new, finD_own, fz_own, still_own, still_exn, nol_non, nol_bl, nol_int, nol_str, nol_dic0, nol_obj, nol_tup, nol_lst, nols_nil, nols_cons, truth_non, truth_bl, truth_int, truth_tup, seqOf_tup, itOf_tup, truth_lst, seqOf_lst, itOf_lst, isL_lst, truth_new, seqOf_new, itOf_new, isL_new, truth_own, seqOf_own, itOf_own, isL_own, itList_fix, isOw_own, isOw_non, isOw_bl, isOw_int, isOw_str, isOw_tup, isOw_obj, isOw_dic0, isOw_loc, isOw_exn, isOw_new, isOw_lst, isOw_scr, itW_t, itW_f, itList_ow, varD_val, varD_own, bind_ok, bind_err, b_ok, b_err, o_next, o_ret, o_brk, o_cont, o_err, noErr_o, fzs_of, binD_int, binI_add, binI_sub, binI_mul, binI_mod, binI_fdiv, binI_pow, kTup_of, kLst_of, kCall_of, kMake_of, mkD_ok, mkD_err, kAnd_tt, kAnd_tf, kAnd_ft, kAnd_ff, kIte_t, kIte_f, kNot_bl, sIte_t, sIte_f, sIte_ot, sIte_of, kNeg_int, kIsi_eq, kIsi_eqX, isiR_some, cmp_lt, cmp_le, cmp_gt, cmp_ge, cmp_eq_int, cmp_ne_int, cmp_eq_bl, cmp_ne_bl, bt_abs, bt_int, bt_int_bl, bt_tuple_tup, fin_ret, fin_next, fin_err, sSet_of, sSetO_of, sSetL_of, sPar2_of, sItem3_of, stOw_own, sAppO_of, sItemO2_of, sItemO_eq, retOw_own, ownC_own, stO_some, stL_some, sApp2_of, appD_of, frzD_own, sRaise_of, sFor_fix, forF_nil, forF_cons, forK_next, forK_cont, forK_brk, forK_ret, forK_err, bindT_nm, lcF_nil, lcF_cons, lcAcc_some, lcAcc_none, lcEnd_of, kSeq_loc, dynD_lst, kRng1_of, kSl_def, kSl2_def, List.map_cons, List.map_nil, List.cons_append, List.nil_append, List.length_cons, List.length_nil, List.replicate, List.getElem?_cons_zero, List.getElem?_cons_succ, List.set_cons_zero, List.set_cons_succ, List.length_set, List.all_cons, List.all_nil, Bool.and_true, Bool.and_self, Bool.not_true, Bool.not_false, if_true, if_false, Nat.reduceAdd, Nat.reduceSub, Nat.reduceLT, Nat.reduceEqDiff, decide_true, decide_false, Int.reduceNeg, evE_0, evE_1, evE_2, evE_3, evE_4, evE_5, evE_6, evE_7, evE_8, evE_9, evE_10, evE_11, evE_12, evE_13, evE_14, evE_15, evE_16, evE_17, evE_18, evE_19, evE_20, evE_21, evE_22, evE_23, evE_24, evE_25, evE_26, evEs_0, evEs_1, evAnd_0, evAnd_1, evAnd_2, evI_0, evI_1, evI_2, evI_3, evI_4, evI_5, kRev_lst, kRev_new, kEnum_tup, kEnum_lst, kEnum_new, enumD4, evS_0, evS_1, evS_2, evS_3, evS_4, evS_5, evS_6, evS_7, evS_8, evS_9, evS_10, evS_11, evS_12, evS_13, evS_14, evS_15, evS_16, evS_17, evS_18, evS_19, hasX_nil, hasX_emp, hasX_val, hasX_own, nxC_of, clrE_none, clrE_some, clr_next, clr_brk, clr_cont, clr_ret, hdlE_none, hdlE_some, varD_exc, evS_20, evS_21, evS_22, evB_0, evB_1, evB_2, kBin_eq, kCmp_eq, kChain_eq, kChainB_eq, kCons_eq, kCons2_eq, kIx_eq, kMeth_eq, kMeth1_eq, sPar_eq, sAttr_eq, sItem_eq, sItem2_eq, sApp_loc, sAppC_lst, sExpr_eq, sRet_of, forStep_eq, lcStep_eq, kRng2_eq, kZip_eq, forB_some, lcIn_some, lcTest_t, lcTest_f, wipeE_nil, wipeE_cons, setAll_nil, setAll_cons, bindT_tp, bindT_tpn, bindT_tpl, sSetT_tup, sSetT_new, sSetT_lst, nextO_some, kInt_int, kTest_bl, kChainC_t, kChainC_f, CE.isNul, optI_t, optI_f, tstC_t, tstC_f, ne_eq, not_false_eq_true, kSeq_tup, kSeq_lst, kSeq_new, kSeq_scr, kSeq_own, ixD_eq, ixS_some, ixR_some, seqOf_locq, seqC_lst, ln_tup, ln_lst, ln_new, ln_own, ln_scr, ln_loc, lenR_some, bt_listq, listR_some, storD_locq, storC_lst, putD_eq, attr_objq, attr_exnq, attr_locq, attrC_ins, fldR_some, setaD_loc, setaC_ins, setaF_some, kComp_fix, kComp_ow, kMeth2_still, kNot_q, notR_some, sl_scr, sl_lst, sl_new, sl_own, cmp_own_l, cmp_own_r, eqK_some, kNeg_q, negK_some, Option.isSome_some, eq_self, beq_self_eq_true,  cmp_eq_str, cmpOk_obj, isi_obj_ty, isi_obj_own, isi_exn_own, isi_exn_ve, L2.atI, L2.ixN, Option.bind_some, Option.map_some, Int.reduceToNat, still_scr, fz_scr, binD_oo, binD_oi, binD_io, binL_obj, binL_int, binRt_some, rOk_add, rOk_sub, rOk_mul, whT_t, whT_f, whK_next, whK_cont, whK_brk, whK_ret, cmp_isn_non, cmp_isb, cmp_isnb, kBl_bl, sAttr2_of, nextS_some, sTry_next, sTry_ret, u_sTry_err, hasX_exc, isX_f1, seqOf_scr, cmp_eq_dic, isi_non_int, isi_non_bool, isi_non_str, isi_non_tuple, isi_non_list, isi_non_dict, isi_non_own, cmpOk_non, eqOf_non, isi_bl_int, isi_bl_bool, isi_bl_str, isi_bl_tuple, isi_bl_list, isi_bl_dict, isi_bl_own, cmpOk_bl, eqOf_bl, isi_int_int, isi_int_bool, isi_int_str, isi_int_tuple, isi_int_list, isi_int_dict, isi_int_own, cmpOk_int, eqOf_int, isi_str_int, isi_str_bool, isi_str_str, isi_str_tuple, isi_str_list, isi_str_dict, isi_str_own, cmpOk_str, eqOf_str, isi_tup_int, isi_tup_bool, isi_tup_str, isi_tup_tuple, isi_tup_list, isi_tup_dict, isi_tup_own, cmpOk_tup, eqOf_tup, isi_lst_int, isi_lst_bool, isi_lst_str, isi_lst_tuple, isi_lst_list, isi_lst_dict, isi_lst_own, cmpOk_lst, eqOf_lst, isi_new_int, isi_new_bool, isi_new_str, isi_new_tuple, isi_new_list, isi_new_dict, isi_new_own, cmpOk_new, eqOf_new, isi_loc_int, isi_loc_bool, isi_loc_str, isi_loc_tuple, isi_loc_list, isi_loc_dict, isi_loc_own, isi_dic_int, isi_dic_bool, isi_dic_str, isi_dic_tuple, isi_dic_list, isi_dic_dict, isi_dic_own, cmpOk_dic, eqOf_dic, leftOk_int, leftOk_bl, p_exc0, p_nf0, p_exc1, p_nf1, p_f1_6, p_exc2, p_nf2, p_f2_5, p_exc3, p_nf3, p_f3_3, p_exc4, p_nf4, p_f4_4, p_cls5, p_nf5, p_f5_0, p_f5_1, p_f5_2, p_eq5, p_op5_add, p_op5_sub, p_op5_mul, p_neg5, p_sub0_0, p_in0_0, p_sub0_1, p_in0_1, p_sub0_2, p_in0_2, p_sub0_3, p_in0_3, p_sub0_4, p_in0_4, p_sub1_0, p_in1_0, p_sub1_1, p_in1_1, p_sub1_2, p_in1_2, p_sub1_3, p_in1_3, p_sub1_4, p_in1_4, p_sub2_0, p_in2_0, p_sub2_1, p_in2_1, p_sub2_2, p_in2_2, p_sub2_3, p_in2_3, p_sub2_4, p_in2_4, p_sub3_0, p_in3_0, p_sub3_1, p_in3_1, p_sub3_2, p_in3_2, p_sub3_3, p_in3_3, p_sub3_4, p_in3_4, p_sub4_0, p_in4_0, p_sub4_1, p_in4_1, p_sub4_2, p_in4_2, p_sub4_3, p_in4_3, p_sub4_4, p_in4_4, noErr_ok, Int.reduceSub, bt_tup_new, rngD4, bin_rep4, cut43, bq_tt, bq_tf, bq_ft, bq_ff, Bool.and_true, Bool.and_false, Bool.true_and, Bool.false_and, zipB_tup, bt_all4, sl_tup, c4_h0, c4_h1, c4_h2, c4_h3, c4_l1, c4_l2, c4_l3, c4_l4, bin_tt, ci_tup, ci_q, cn_tup, cn_q, cn_non, p2_still, p2_fz, p2_fin, p2_isow, p2_nol, d_isow, d_fin, d_still, d_fz, d_nol, md4_0, md4_1, md4_2, md4_3, md4_4, md4_5, md4_6, md4_7, Int.reduceAdd, List.append_nil, List.nil_append, $as,*])
theorem sTry_no {k k1 : Nat} {nm : Option Nat} {hh : Ev → Sto → O} {fs : List D} {ρ : Ev} {S : Sto} (h1 : Prog.exc? P k1 = true) (h2 : Prog.exc? P k = true) (h3 : Prog.subB P k1 k = false) : sTry P k nm hh (.err k1 fs ρ S) = .err k1 fs ρ S := by
  show (if (P.exc? k1 && P.exc? k) = false then O.bad else if P.subB k1 k then clr nm (hh (hdlE nm k1 fs ρ) S) else .err k1 fs ρ S) = _
  rw [h1, h2, h3]; rfl
/-! ### led back -/
theorem eq_same {x : D} (h0 : P.eqOf x = none) (h : x ≠ .dic0) (S : Sto) (hd : dat (rd S x) 60 = true) (cl : Cl) : cmpD P cl .eq x x S = .ok (.bl true) S := by
  have e : cmpD P cl .eq x x S = if dat (rd S x) 60 && dat (rd S x) 60 then R.ok (D.bl (eqB (rd S x) (rd S x))) S else R.bad := by
    show eqD P cl x x S = _
    unfold eqD
    rw [h0]
    cases x <;> first | rfl | exact absurd rfl h
  rw [e, hd, eqB_refl _ _ hd]; rfl
theorem eq_q (q : Q4) (S : Sto) (cl : Cl) : cmpD P cl .eq q.d q.d S = .ok (.bl true) S := eq_same (x := q.d) rfl (fun z => by unfold Q4.d at z; cases z) S rfl cl
theorem coA_or (x y : D) : coA x y = .non ∨ ∃ q : Q4, coA x y = q.d := by
  unfold coA
  split
  · exact fp_or _ _ _ _
  · exact .inl rfl
theorem coW_or (x y : D) : coW x y = .non ∨ ∃ q : Q4, coW x y = q.d := by
  unfold coW
  split
  · exact fp_or _ _ _ _
  · exact .inl rfl
structure P2b (p : P2) (m : Nat) : Prop where
  b0 : Bnd p.a m
  b1 : Bnd p.b m
  b2 : Bnd p.c m
  b3 : Bnd p.e m
theorem plc_b {q : Q4} {m : Nat} (h : Qb q m) : P2b (plc q) (m + 2) := by
  obtain ⟨⟨h0⟩, ⟨h1⟩, ⟨h2⟩, ⟨h3⟩⟩ := h
  have e : 2 ^ (m + 2) = 2 ^ m * 4 := by rw [Nat.pow_add]
  exact ⟨⟨by show (2 * q.x0).natAbs < _; omega⟩, ⟨by show (q.x1 - q.x3).natAbs < _; omega⟩, ⟨by show (2 * q.x2).natAbs < _; omega⟩, ⟨by show (q.x1 + q.x3).natAbs < _; omega⟩⟩
theorem sta_b {q : Q4} {m : Nat} (h : Qb q m) : P2b (sta q) (m + 2) := by
  obtain ⟨⟨h0⟩, ⟨h1⟩, ⟨h2⟩, ⟨h3⟩⟩ := h
  have e : 2 ^ (m + 2) = 2 ^ m * 4 := by rw [Nat.pow_add]
  exact ⟨⟨by show (2 * q.x0).natAbs < _; omega⟩, ⟨by show (q.x3 - q.x1).natAbs < _; omega⟩, ⟨by show (-2 * q.x2).natAbs < _; omega⟩, ⟨by show (q.x1 + q.x3).natAbs < _; omega⟩⟩
section
variable {p : P2} {A B C A2 B2 C2 : Int}
theorem c_hf (n : Nat) (hp : P2b p 88) (b0 : Bnd A 10) (b1 : Bnd B 10) (b2 : Bnd C 10) (b3 : Bnd A2 10) (b4 : Bnd B2 10) (b5 : Bnd C2 10) (hC : 0 < C) (hC2 : 0 < C2) (s : Bool) (S : Sto) :
   ∃ x y o, (still x = true ∧ fz x = x ∧ nol x = true) ∧ (still y = true ∧ fz y = y ∧ nol y = true) ∧ (o = .non ∨ ∃ q' : Q4, o = q'.d) ∧
     Tk.call P (n+7) 46 [.tup [.int (p.a * C + A * 2), .int (p.b * C + B * 2), .int (2 * C)]] S = .ok x S ∧ Tk.call P (n+7) 46 [.tup [.int (p.c * C2 + A2 * 2), .int (p.e * C2 + B2 * 2), .int (2 * C2)]] S = .ok y S ∧
     Tk.call P (n+7) (bif s then 33 else 32) [.tup [x, y]] S = .ok o S ∧ Tk.call P (n+7) 53 [.tup [.int (p.a * C + A * 2), .int (p.b * C + B * 2), .int (2 * C)], .tup [.int (p.c * C2 + A2 * 2), .int (p.e * C2 + B2 * 2), .int (2 * C2)], .bl s] S = .ok o S := by
  obtain ⟨p0, p1, p2, p3⟩ := hp
  have mk : ∀ {i c a : Int}, Bnd i 88 → Bnd c 10 → Bnd a 10 → Bnd (i * c + a * 2) 110 := fun {i c a} h1 h2 h3 => Bnd.mono (n := max (88 + 10) (10 + 2) + 1) inferInstance (by decide)
  have k0 : Bnd (p.a * C + A * 2) 110 := mk p0 b2 b0
  have k1 : Bnd (p.b * C + B * 2) 110 := mk p1 b2 b1
  have k2 : Bnd (2 * C) 110 := Bnd.mono (n := 2 + 10) inferInstance (by decide)
  have k3 : Bnd (p.c * C2 + A2 * 2) 110 := mk p2 b5 b3
  have k4 : Bnd (p.e * C2 + B2 * 2) 110 := mk p3 b5 b4
  have k5 : Bnd (2 * C2) 110 := Bnd.mono (n := 2 + 10) inferInstance (by decide)
  obtain ⟨x, t, r, u, w, e1, n1, hx⟩ := c_given (n+4) (a := p.a * C + A * 2) (b := p.b * C + B * 2) (c := 2 * C) (m := 110) (by decide) (by omega) S
  obtain ⟨y, t2, r2, u2, w2, e2, n2, hy⟩ := c_given (n+4) (a := p.c * C2 + A2 * 2) (b := p.e * C2 + B2 * 2) (c := 2 * C2) (m := 110) (by decide) (by omega) S
  have a1 : Bnd t 110 := num_tle n1 k0
  have a2 : Bnd r 110 := num_rle n1 k1
  have a3 : Bnd u 110 := num_ule n1 k2
  have a4 : Bnd t2 110 := num_tle n2 k3
  have a5 : Bnd r2 110 := num_rle n2 k4
  have a6 : Bnd u2 110 := num_ule n2 k5
  have e3 := c_lco (n+3) n1 n2 (m := 110) (by decide) s S
  cases s with
  | false =>
    have e4 := c_cat n (m := 110) hx hy n1.hu n2.hu (by decide) S
    exact ⟨x, y, _, rp_still hx, rp_still hy, coA_or _ _, e1, e2, e4, e3⟩
  | true =>
    have e4 := c_cwt n (m := 110) hx hy n1.hu n2.hu (by decide) S
    exact ⟨x, y, _, rp_still hx, rp_still hy, coW_or _ _, e1, e2, e4, e3⟩
theorem c_led (n : Nat) {q : Q4} (hq : Qb q 86) (b0 : Bnd A 10) (b1 : Bnd B 10) (b2 : Bnd C 10) (b3 : Bnd A2 10) (b4 : Bnd B2 10) (b5 : Bnd C2 10) (hC : 0 < C) (hC2 : 0 < C2) (S : Sto) :
   Tk.call P (n+8) 54 [q.d, .tup [.int A, .int B, .int C], .tup [.int A2, .int B2, .int C2]] S = .ok (.bl true) S := by
  obtain ⟨x, y, o, ⟨x1, x2, x3⟩, ⟨y1, y2, y3⟩, ho, e1, e2, e3, e4⟩ := c_hf n (plc_b hq) b0 b1 b2 b3 b4 b5 hC hC2 false S
  obtain ⟨x', y', o', ⟨x1', x2', x3'⟩, ⟨y1', y2', y3'⟩, ho', e1', e2', e3', e4'⟩ := c_hf n (sta_b hq) b0 b1 b2 b3 b4 b5 hC hC2 true S
  have l1 := c_lpl (n+6) hq (by decide) S
  have l2 := c_lst (n+6) hq (by decide) S
  have pl : ∀ {p : P2}, P2b p 88 → Tk.call P (n+7) 38 [.tup [.int p.a, .int p.b, .int 2], .tup [.int A, .int B, .int C]] S = .ok (.tup [.int (p.a * C + A * 2), .int (p.b * C + B * 2), .int (2 * C)]) S ∧
     Tk.call P (n+7) 38 [.tup [.int p.c, .int p.e, .int 2], .tup [.int A2, .int B2, .int C2]] S = .ok (.tup [.int (p.c * C2 + A2 * 2), .int (p.e * C2 + B2 * 2), .int (2 * C2)]) S := by
    intro p hp
    obtain ⟨p0, p1, p2, p3⟩ := hp
    have c0 : Bnd A 88 := b0.mono (by decide)
    have c1 : Bnd B 88 := b1.mono (by decide)
    have c2 : Bnd C 88 := b2.mono (by decide)
    have c3 : Bnd A2 88 := b3.mono (by decide)
    have c4 : Bnd B2 88 := b4.mono (by decide)
    have c5 : Bnd C2 88 := b5.mono (by decide)
    have c6 : Bnd (2 : Int) 88 := ⟨by decide⟩
    exact ⟨l_plus (n+6) (m := 88) (by decide) S, l_plus (n+6) (m := 88) (by decide) S⟩
  obtain ⟨s1, s2⟩ := pl (plc_b hq)
  obtain ⟨s3, s4⟩ := pl (sta_b hq)
  generalize hG : plc q = G at *
  generalize hK : sta q = K at *
  unfold P2.d at l1 l2
  have e3 : Tk.call P (n+7) 32 [.tup [x, y]] S = .ok o S := e3
  have e3' : Tk.call P (n+7) 33 [.tup [x', y']] S = .ok o' S := e3'
  generalize G.a * C + A * 2 = v0 at *
  generalize G.b * C + B * 2 = v1 at *
  generalize G.c * C2 + A2 * 2 = v2 at *
  generalize G.e * C2 + B2 * 2 = v3 at *
  generalize K.a * C + A * 2 = z0 at *
  generalize K.b * C + B * 2 = z1 at *
  generalize K.c * C2 + A2 * 2 = z2 at *
  generalize K.e * C2 + B2 * 2 = z3 at *
  generalize 2 * C = v4 at *
  generalize 2 * C2 = v5 at *
  rcases ho with rfl | ⟨qq, rfl⟩ <;> rcases ho' with rfl | ⟨qq', rfl⟩
  · simpa?! [r54, b54_t0, b54_t1, b54_t2, b54_t3, b54_t4, b54_t5, b54_t6, b54_t7, b54_t8, b54_t9, b54_t10, b54_t11, b54_t12, b54_s0, b54_s1, b54_s2, b54_s3, b54_s4, b54_s5, b54_s6, b54_s7, b54_s8, b54_s9, b54_s10, b54_s11, b54_s12, l1, l2, s1, s2, s3, s4, x1, x2, x3, y1, y2, y3, x1', x2', x3', y1', y2', y3', e1, e2, e3, e4, e1', e2', e3', e4']
  · have h1 := c_lisc (n+6) qq' S
    have h2 := eq_q qq' S (Tk.call P (n+7))
    simpa?! [r54, b54_t0, b54_t1, b54_t2, b54_t3, b54_t4, b54_t5, b54_t6, b54_t7, b54_t8, b54_t9, b54_t10, b54_t11, b54_t12, b54_s0, b54_s1, b54_s2, b54_s3, b54_s4, b54_s5, b54_s6, b54_s7, b54_s8, b54_s9, b54_s10, b54_s11, b54_s12, l1, l2, s1, s2, s3, s4, x1, x2, x3, y1, y2, y3, x1', x2', x3', y1', y2', y3', e1, e2, e3, e4, e1', e2', e3', e4', h1, h2]
  · have h1 := c_lisc (n+6) qq S
    have h2 := ne_q qq S (Tk.call P (n+7))
    simpa?! [r54, b54_t0, b54_t1, b54_t2, b54_t3, b54_t4, b54_t5, b54_t6, b54_t7, b54_t8, b54_t9, b54_t10, b54_t11, b54_t12, b54_s0, b54_s1, b54_s2, b54_s3, b54_s4, b54_s5, b54_s6, b54_s7, b54_s8, b54_s9, b54_s10, b54_s11, b54_s12, l1, l2, s1, s2, s3, s4, x1, x2, x3, y1, y2, y3, x1', x2', x3', y1', y2', y3', e1, e2, e3, e4, e1', e2', e3', e4', h1, h2]
  · have h1 := c_lisc (n+6) qq S
    have h2 := ne_q qq S (Tk.call P (n+7))
    have h3 := c_lisc (n+6) qq' S
    have h4 := eq_q qq' S (Tk.call P (n+7))
    simpa?! [r54, b54_t0, b54_t1, b54_t2, b54_t3, b54_t4, b54_t5, b54_t6, b54_t7, b54_t8, b54_t9, b54_t10, b54_t11, b54_t12, b54_s0, b54_s1, b54_s2, b54_s3, b54_s4, b54_s5, b54_s6, b54_s7, b54_s8, b54_s9, b54_s10, b54_s11, b54_s12, l1, l2, s1, s2, s3, s4, x1, x2, x3, y1, y2, y3, x1', x2', x3', y1', y2', y3', e1, e2, e3, e4, e1', e2', e3', e4', h1, h2, h3, h4]
end
/-! ### refusals -/
inductive BadW : D → Prop where
  | i8 : BadW (.int 8)
  | m1 : BadW (.int (-1))
  | t : BadW (.bl true)
  | s : BadW (.str "0")
  | n : BadW .non
theorem bw_ok {w : D} (h : BadW w) : still w = true ∧ fz w = w ∧ nol w = true := by
  cases h <;> exact ⟨rfl, rfl, rfl⟩
theorem bw_chk (n : Nat) {w : D} (h : BadW w) (S : Sto) : Tk.call P (n+3) 23 [w] S = .err 4 [w] S := by
  cases h
  · simpa?! [r23, b23, r22, b22, c_int]
  · simpa?! [r23, b23, r22, b22, c_int]
  · simpa?! [r23, b23, r22, b22, c_intB]
  · simpa?! [r23, b23, r22, b22, c_intS]
  · simpa?! [r23, b23, r22, b22, c_intN]
abbrev Told : D := .tup [.str "told", .non]
theorem c_refB (n : Nat) {x w : D} (h : BadC x) (hw : still w = true ∧ fz w = w ∧ nol w = true) (m : Int) (S : Sto) : Tk.call P (n+6) 50 [x, w, .int m] S = .ok (.new [.tup [.str "corner", x], .tup [.str "corner", x], .tup [.str "corner", x]]) S := by
  obtain ⟨h1, h2, h3⟩ := bc_ok h
  obtain ⟨w1, w2, w3⟩ := hw
  have e1 : Tk.call P (n+5) 25 [x, w, .int m] S = .err 3 [x] S := by
    have e := bc_chk (n+1) h S
    simpa?! [r25, b25, e, h1, h2, h3, w1, w2, w3]
  have e2 : Tk.call P (n+5) 28 [x] S = .err 3 [x] S := by
    have e := bc_chk (n+1) h S
    simpa?! [r28, b28, e, h1, h2, h3]
  have e3 : Tk.call P (n+5) 29 [x] S = .err 3 [x] S := by
    have e := bc_chk (n+1) h S
    simpa?! [r29, b29, e, h1, h2, h3]
  simpa?! [r50, b50, e1, e2, e3, h1, h2, h3, w1, w2, w3]
theorem c_refW (n : Nat) {w : D} (h : BadW w) {q : Q4} (hq : Qb q 85) (m : Int) (S : Sto) : Tk.call P (n+6) 50 [q.d, w, .int m] S = .ok (.new [.tup [.str "direction", w], Told, Told]) S := by
  obtain ⟨w1, w2, w3⟩ := bw_ok h
  have e1 : Tk.call P (n+5) 25 [q.d, w, .int m] S = .err 4 [w] S := by
    have e := bw_chk (n+1) h S
    have e' := c_chk (n+1) q S
    simpa?! [r25, b25, e, e', w1, w2, w3]
  obtain ⟨x, hx, e2⟩ := c_place n hq (by decide) S
  obtain ⟨y, hy, e3⟩ := c_star n hq (by decide) S
  obtain ⟨h1, h2, h3, h4, h5⟩ := tells_ok hx
  obtain ⟨g1, g2, g3, g4, g5⟩ := tells_ok hy
  have out : ∀ (nm : Option Nat) (hh : Ev → Sto → O) (fs : List D) (ρ : Ev) (S : Sto), sTry P 3 nm hh (.err 4 fs ρ S) = .err 4 fs ρ S := fun nm hh fs ρ S => sTry_no rfl rfl (by decide +kernel)
  simpa?! [r50, b50, out, e1, e2, e3, w1, w2, w3, h1, h2, h3, h4, h5, g1, g2, g3, g4, g5]
theorem c_refO (n : Nat) {d : Int} (d0 : 0 ≤ d) (d7 : d ≤ 7) {q : Q4} (hq : Qb q 85) (m : Int) (S : Sto) : Tk.call P (n+6) 50 [q.d, .int d, .int m] S = .ok (.new [Told, Told, Told]) S := by
  have e1 := c_steppedm (n+1) q d0 d7 m S
  obtain ⟨x, hx, e2⟩ := c_place n hq (by decide) S
  obtain ⟨y, hy, e3⟩ := c_star n hq (by decide) S
  obtain ⟨h1, h2, h3, h4, h5⟩ := tells_ok hx
  obtain ⟨g1, g2, g3, g4, g5⟩ := tells_ok hy
  simpa?! [r50, b50, e1, e2, e3, h1, h2, h3, h4, h5, g1, g2, g3, g4, g5]
theorem np_eq (n : Nat) {x : D} (h : eqT P (Tk.call P n) 2 x x = some true) (S : Sto) : cmpD P (Tk.call P n) .eqn (.lst [x, x]) (.new [x, x]) S = .ok (.bl true) S := by
  show eqnR S (lstT (match eqT P (Tk.call P n) 2 x x with | some true => (match eqT P (Tk.call P n) 2 x x with | some true => some true | some false => some false | none => none) | some false => _ | none => none)) = _
  rw [h]
  rfl
theorem c_nopA (n : Nat) {x : D} (hx : still x = true ∧ fz x = x ∧ nol x = true) (S : Sto) (hi : Tk.call P (n+4) 15 [x] S = .ok (.bl false) S) (h : eqT P (Tk.call P (n+6)) 2 x x = some true) :
   Tk.call P (n+7) 51 [x] S = .ok (.bl true) S := by
  obtain ⟨h1, h2, h3⟩ := hx
  have e0 : Tk.call P (n+5) 16 [x] S = .err 2 [x] S := by
    simpa?! [r16, b16, hi, h1, h2, h3]
  have e1 : Tk.call P (n+6) 32 [x] S = .err 2 [x] S := by
    simpa?! [r32, b32, e0, h1, h2, h3]
  have e2 : Tk.call P (n+6) 33 [x] S = .err 2 [x] S := by
    simpa?! [r33, b33, e0, h1, h2, h3]
  have e3 := np_eq (n+6) h S
  simpa?! [r51, b51, e1, e2, e3, h1, h2, h3]
theorem c_nop1 (n : Nat) (t r u : Int) (S : Sto) : Tk.call P (n+7) 51 [.lst [Ob t r u, .int 0]] S = .ok (.bl true) S := by
  have hi : ∀ S, Tk.call P (n+4) 15 [.lst [Ob t r u, .int 0]] S = .ok (.bl false) S := fun S => by simpa?! [r15, b15]
  refine c_nopA n ⟨rfl, rfl, rfl⟩ S (hi S) ?_
  have e : objT P (Tk.call P (n+6)) 5 [.int t, .int r, .int u] [.int t, .int r, .int u] = some true := by
    have e := c_eqR (n+4) t r u t r u []
    rw [decide_eq_true rfl, decide_eq_true rfl, decide_eq_true rfl] at e
    show objR _ _ (Tk.call P (n+6) _ [Ob t r u, Ob t r u] []) = _
    rw [show Tk.call P (n+6) _ [Ob t r u, Ob t r u] [] = _ from e]
    show (if eqBs _ _ && !true then none else some true) = _
    rw [Bool.not_true, Bool.and_false]
    rfl
  show lstT (match (itemT P (Tk.call P (n+6)) (Ob t r u) (Ob t r u)) with | some true => _ | some false => _ | none => _) = _
  rw [show itemT P (Tk.call P (n+6)) (Ob t r u) (Ob t r u) = objT P (Tk.call P (n+6)) 5 [.int t, .int r, .int u] [.int t, .int r, .int u] from rfl, e]
  rfl
theorem c_nop2 (n : Nat) (S : Sto) : Tk.call P (n+7) 51 [.tup [.tup [.int 0, .bl true], .int 1]] S = .ok (.bl true) S := by
  have hi : ∀ S, Tk.call P (n+4) 15 [.tup [.tup [.int 0, .bl true], .int 1]] S = .ok (.bl false) S := fun S => by simpa?! [r15, b15, r13, b13, c_intT]
  exact c_nopA n ⟨rfl, rfl, rfl⟩ S (hi S) rfl
end Pg
set_option exponentiation.threshold 300
namespace Pg
open Tk
local macro_rules | `(tactic| simpa?! [$as,*]) => `(tactic| simp (config := { decide := true, implicitDefEqProofs := false }) only [still_non, fz_non, finD_non, still_bl, fz_bl, finD_bl, still_int, fz_int, finD_int, still_str, fz_str, finD_str, still_tup, fz_tup, finD_tup, still_lst, fz_lst, finD_lst, still_obj, fz_obj, finD_obj, still_dic0, fz_dic0, finD_dic0, still_loc, fz_loc, finD_loc, still_new, u_fz_new, finD_new, finD_own, fz_own, still_own, still_exn, nol_non, nol_bl, nol_int, nol_str, nol_dic0, nol_obj, nol_tup, nol_lst, nols_nil, nols_cons, truth_non, truth_bl, truth_int, truth_tup, seqOf_tup, itOf_tup, truth_lst, seqOf_lst, itOf_lst, isL_lst, truth_new, seqOf_new, itOf_new, isL_new, truth_own, seqOf_own, itOf_own, isL_own, itList_fix, isOw_own, isOw_non, isOw_bl, isOw_int, isOw_str, isOw_tup, isOw_obj, isOw_dic0, isOw_loc, isOw_exn, isOw_new, isOw_lst, isOw_scr, itW_t, itW_f, itList_ow, varD_val, varD_own, bind_ok, bind_err, b_ok, b_err, o_next, o_ret, o_brk, o_cont, o_err, noErr_o, fzs_of, binD_int, binI_add, binI_sub, binI_mul, binI_mod, binI_fdiv, binI_pow, kTup_of, kLst_of, kCall_of, kMake_of, mkD_ok, mkD_err, kAnd_tt, kAnd_tf, kAnd_ft, kAnd_ff, kIte_t, kIte_f, kNot_bl, sIte_t, sIte_f, sIte_ot, sIte_of, kNeg_int, kIsi_eq, kIsi_eqX, isiR_some, cmp_lt, cmp_le, cmp_gt, cmp_ge, cmp_eq_int, cmp_ne_int, cmp_eq_bl, cmp_ne_bl, bt_abs, bt_int, bt_int_bl, bt_tuple_tup, fin_ret, fin_next, fin_err, sSet_of, sSetO_of, sSetL_of, sPar2_of, sItem3_of, stOw_own, sAppO_of, sItemO2_of, sItemO_eq, retOw_own, ownC_own, stO_some, stL_some, sApp2_of, appD_of, frzD_own, sRaise_of, sFor_fix, forF_nil, forF_cons, forK_next, forK_cont, forK_brk, forK_ret, forK_err, bindT_nm, lcF_nil, lcF_cons, lcAcc_some, lcAcc_none, lcEnd_of, kSeq_loc, dynD_lst, kRng1_of, kSl_def, kSl2_def, List.map_cons, List.map_nil, List.cons_append, List.nil_append, List.length_cons, List.length_nil, List.replicate, List.getElem?_cons_zero, List.getElem?_cons_succ, List.set_cons_zero, List.set_cons_succ, List.length_set, List.all_cons, List.all_nil, Bool.and_true, Bool.and_self, Bool.not_true, Bool.not_false, if_true, if_false, Nat.reduceAdd, Nat.reduceSub, Nat.reduceLT, Nat.reduceEqDiff, decide_true, decide_false, Int.reduceNeg, evE_0, evE_1, evE_2, evE_3, evE_4, evE_5, evE_6, evE_7, evE_8, evE_9, evE_10, evE_11, evE_12, evE_13, evE_14, evE_15, evE_16, evE_17, evE_18, evE_19, evE_20, evE_21, evE_22, evE_23, evE_24, evE_25, evE_26, evEs_0, evEs_1, evAnd_0, evAnd_1, evAnd_2, evI_0, evI_1, evI_2, evI_3, evI_4, evI_5, kRev_lst, kRev_new, kEnum_tup, kEnum_lst, kEnum_new, enumD4, evS_0, evS_1, evS_2, evS_3, evS_4, evS_5, evS_6, evS_7, evS_8, evS_9, evS_10, evS_11, evS_12, evS_13, evS_14, evS_15, evS_16, evS_17, evS_18, evS_19, hasX_nil, hasX_emp, hasX_val, hasX_own, nxC_of, clrE_none, clrE_some, clr_next, clr_brk, clr_cont, clr_ret, hdlE_none, hdlE_some, varD_exc, evS_20, evS_21, evS_22, evB_0, evB_1, evB_2, kBin_eq, kCmp_eq, kChain_eq, kChainB_eq, kCons_eq, kCons2_eq, kIx_eq, kMeth_eq, kMeth1_eq, sPar_eq, sAttr_eq, sItem_eq, sItem2_eq, sApp_loc, sAppC_lst, sExpr_eq, sRet_of, forStep_eq, lcStep_eq, kRng2_eq, kZip_eq, forB_some, lcIn_some, lcTest_t, lcTest_f, wipeE_nil, wipeE_cons, setAll_nil, setAll_cons, bindT_tp, bindT_tpn, bindT_tpl, sSetT_tup, sSetT_new, sSetT_lst, nextO_some, kInt_int, kTest_bl, kChainC_t, kChainC_f, CE.isNul, optI_t, optI_f, tstC_t, tstC_f, ne_eq, not_false_eq_true, kSeq_tup, kSeq_lst, kSeq_new, kSeq_scr, kSeq_own, ixD_eq, ixS_some, ixR_some, seqOf_locq, seqC_lst, ln_tup, ln_lst, ln_new, ln_own, ln_scr, ln_loc, lenR_some, bt_listq, listR_some, storD_locq, storC_lst, putD_eq, attr_objq, attr_exnq, attr_locq, attrC_ins, fldR_some, setaD_loc, setaC_ins, setaF_some, kComp_fix, kComp_ow, kMeth2_still, kNot_q, notR_some, sl_scr, sl_lst, sl_new, sl_own, cmp_own_l, cmp_own_r, eqK_some, kNeg_q, negK_some, Option.isSome_some, eq_self, beq_self_eq_true,  cmp_eq_str, cmpOk_obj, isi_obj_ty, isi_obj_own, isi_exn_own, isi_exn_ve, L2.atI, L2.ixN, Option.bind_some, Option.map_some, Int.reduceToNat, still_scr, fz_scr, binD_oo, binD_oi, binD_io, binL_obj, binL_int, binRt_some, rOk_add, rOk_sub, rOk_mul, whT_t, whT_f, whK_next, whK_cont, whK_brk, whK_ret, cmp_isn_non, cmp_isb, cmp_isnb, kBl_bl, sAttr2_of, nextS_some, sTry_next, sTry_ret, u_sTry_err, hasX_exc, isX_f1, seqOf_scr, cmp_eq_dic, isi_non_int, isi_non_bool, isi_non_str, isi_non_tuple, isi_non_list, isi_non_dict, isi_non_own, cmpOk_non, eqOf_non, isi_bl_int, isi_bl_bool, isi_bl_str, isi_bl_tuple, isi_bl_list, isi_bl_dict, isi_bl_own, cmpOk_bl, eqOf_bl, isi_int_int, isi_int_bool, isi_int_str, isi_int_tuple, isi_int_list, isi_int_dict, isi_int_own, cmpOk_int, eqOf_int, isi_str_int, isi_str_bool, isi_str_str, isi_str_tuple, isi_str_list, isi_str_dict, isi_str_own, cmpOk_str, eqOf_str, isi_tup_int, isi_tup_bool, isi_tup_str, isi_tup_tuple, isi_tup_list, isi_tup_dict, isi_tup_own, cmpOk_tup, eqOf_tup, isi_lst_int, isi_lst_bool, isi_lst_str, isi_lst_tuple, isi_lst_list, isi_lst_dict, isi_lst_own, cmpOk_lst, eqOf_lst, isi_new_int, isi_new_bool, isi_new_str, isi_new_tuple, isi_new_list, isi_new_dict, isi_new_own, cmpOk_new, eqOf_new, isi_loc_int, isi_loc_bool, isi_loc_str, isi_loc_tuple, isi_loc_list, isi_loc_dict, isi_loc_own, isi_dic_int, isi_dic_bool, isi_dic_str, isi_dic_tuple, isi_dic_list, isi_dic_dict, isi_dic_own, cmpOk_dic, eqOf_dic, leftOk_int, leftOk_bl, p_exc0, p_nf0, p_exc1, p_nf1, p_f1_6, p_exc2, p_nf2, p_f2_5, p_exc3, p_nf3, p_f3_3, p_exc4, p_nf4, p_f4_4, p_cls5, p_nf5, p_f5_0, p_f5_1, p_f5_2, p_eq5, p_op5_add, p_op5_sub, p_op5_mul, p_neg5, p_sub0_0, p_in0_0, p_sub0_1, p_in0_1, p_sub0_2, p_in0_2, p_sub0_3, p_in0_3, p_sub0_4, p_in0_4, p_sub1_0, p_in1_0, p_sub1_1, p_in1_1, p_sub1_2, p_in1_2, p_sub1_3, p_in1_3, p_sub1_4, p_in1_4, p_sub2_0, p_in2_0, p_sub2_1, p_in2_1, p_sub2_2, p_in2_2, p_sub2_3, p_in2_3, p_sub2_4, p_in2_4, p_sub3_0, p_in3_0, p_sub3_1, p_in3_1, p_sub3_2, p_in3_2, p_sub3_3, p_in3_3, p_sub3_4, p_in3_4, p_sub4_0, p_in4_0, p_sub4_1, p_in4_1, p_sub4_2, p_in4_2, p_sub4_3, p_in4_3, p_sub4_4, p_in4_4, noErr_ok, Int.reduceSub, bt_tup_new, rngD4, bin_rep4, cut43, bq_tt, bq_tf, bq_ft, bq_ff, Bool.and_true, Bool.and_false, Bool.true_and, Bool.false_and, zipB_tup, bt_all4, sl_tup, c4_h0, c4_h1, c4_h2, c4_h3, c4_l1, c4_l2, c4_l3, c4_l4, bin_tt, ci_tup, ci_q, cn_tup, cn_q, cn_non, p2_still, p2_fz, p2_fin, p2_isow, p2_nol, d_isow, d_fin, d_still, d_fz, d_nol, md4_0, md4_1, md4_2, md4_3, md4_4, md4_5, md4_6, md4_7, Int.reduceAdd, List.append_nil, List.nil_append, $as,*])
/-- the numbers that the law keeps of a script -/
def cutI (ns : List Int) : List Int := (ns.drop (HT.sIx ns.length 0 none)).take (HT.sIx ns.length ns.length (some 63) - HT.sIx ns.length 0 none)
theorem cut_map (ns : List Int) : cutD (ns.map D.int) none (some 63) = (cutI ns).map D.int := by
  unfold cutD cutI
  rw [List.length_map, List.map_take, List.map_drop]
theorem c_start (ns : List Int) (S : Sto) : Tk.call P 29 34 [.scr (ns.map D.int)] S = .ok (.new [.lst ((cutI ns).map D.int), .int 0, .int 0]) S := by
  simpa?! [r34, b34, cut_map]
theorem fin_law {S : Sto} (h : S.length = 1) : fin 0 (.ret (.bl true) S) = .ok (.bl true) [] := by
  show (if S.length = 0 then R.ok (finD (.bl true)) S else if 0 = 0 ∧ nol (.bl true) = true then R.ok (.bl true) [] else .bad) = _
  rw [if_neg (by omega), if_pos ⟨rfl, rfl⟩]
abbrev row (sc : D) (s2 s3 s4 s5 s6 s7 s8 s9 s10 s11 s12 s13 s14 s15 s16 s17 : Tk.Slot) : Ev := [.val sc, .val (.loc 0), s2, s3, s4, s5, s6, s7, s8, s9, s10, s11, s12, s13, s14, s15, s16, s17]
theorem bin_rep3 (cl : Cl) (x : D) (S : Sto) : binD P cl .mul (.new [x]) (.int 3) S = .ok (.new [x, x, x]) S := by
  rfl
theorem eq_ln (xs : List D) (S : Sto) (hd : dat (.lst xs) 60 = true) (cl : Cl) : cmpD P cl .eq (.lst xs) (.new xs) S = .ok (.bl true) S := by
  show (if dat (.lst xs) 60 && dat (.lst xs) 60 then R.ok (D.bl (eqB (.lst xs) (.lst xs))) S else R.bad) = _
  rw [hd, eqB_refl _ _ hd]; rfl
theorem bp_dat' {x : D} (h : Bp x) : dat x 57 = true := by
  cases h
  · rfl
  · decide +kernel
  · rfl
  · rfl
theorem bc_dat' {x : D} (h : BadC x) : dat (.lst [.tup [.str "corner", x], .tup [.str "corner", x], .tup [.str "corner", x]]) 60 = true := by
  have h1 : dat x 58 = true := by
    cases h with
    | p0 x h => show (dat x 57 && (true && (true && (true && true)))) = true; rw [bp_dat' h]; rfl
    | p1 x h => show (true && (dat x 57 && (true && (true && true)))) = true; rw [bp_dat' h]; rfl
    | p2 x h => show (true && (true && (dat x 57 && (true && true)))) = true; rw [bp_dat' h]; rfl
    | p3 x h => show (true && (true && (true && (dat x 57 && true)))) = true; rw [bp_dat' h]; rfl
    | _ => rfl
  have h2 : dat (.str "corner") 58 = true := by decide +kernel
  have h3 : dat (.tup [.str "corner", x]) 59 = true := by
    show (dat (.str "corner") 58 && (dat x 58 && true)) = true
    rw [h1, h2]; rfl
  show (dat (.tup [.str "corner", x]) 59 && (dat (.tup [.str "corner", x]) 59 && (dat (.tup [.str "corner", x]) 59 && true))) = true
  rw [h3]; rfl
theorem told_dat {w : D} (h : BadW w) : dat (.lst [.tup [.str "direction", w], Told, Told]) 60 = true := by
  cases h <;> decide +kernel
theorem told_dat3 : dat (.lst [Told, Told, Told]) 60 = true := by decide +kernel
theorem eq_bi (cl : Cl) (d : Int) (S : Sto) : cmpD P cl .eq (.bl true) (.int d) S = .ok (.bl (eqB (.bl true) (.int d))) S := rfl
theorem eq_si (cl : Cl) (d : Int) (S : Sto) : cmpD P cl .eq (.str "0") (.int d) S = .ok (.bl false) S := by
  show (if dat (.str "0") 60 && dat (.int d) 60 then R.ok (D.bl (eqB (.str "0") (.int d))) S else R.bad) = _
  rw [show dat (.str "0") 60 = true by decide +kernel]
  rfl
theorem eq_ni (cl : Cl) (d : Int) (S : Sto) : cmpD P cl .eq .non (.int d) S = .ok (.bl false) S := rfl
theorem eq_bb (cl : Cl) (b c : Bool) (S : Sto) : cmpD P cl .eq (.bl b) (.bl c) S = .ok (.bl (b == c)) S := by cases b <;> cases c <;> rfl
section
variable {cs : List Int} {k : Nat} {a r : Int} {sc : D}
/-- refusals -/
theorem s6_B (hcs : ∀ z ∈ cs, z.natAbs < 2 ^ 1048576) {q : Q4} (hq : Qb q 84) (m e : Int) (v : V (k + 5) a r) : ∃ S', S'.length = 1 ∧ evS P (Tk.call P 29) b55_s6 (row sc (.val (.int 0)) (.val q.d) (.val (.int e)) (.val (.int m)) .emp .emp .emp .emp .emp .emp .emp .emp .emp .emp .emp .emp) [St cs a r] = .ret (.bl true) S' := by
  obtain ⟨x, y, a1, r1, hx, hy1, hy2, v, e1⟩ := l_bad (k := k + 3) hcs v q
  obtain ⟨hx1, hx2, hx3⟩ := bc_ok hx
  obtain ⟨i, a2, r2, i0, i6, v, e2⟩ := draw_ok 27 cs hcs (k := k) (v.mono (by omega)) (many := 6) (by decide) (by decide)
  obtain ⟨p, hp, e3⟩ := c_place 24 (hq.mono (k := 85) (by decide)) (by decide) [St cs a2 r2]
  obtain ⟨np, kp⟩ := hp
  rename_i t r u w t2 r2' u2 w2
  have e4 := c_nop1 22 t r u [St cs a2 r2]
  have e5 := eq_ln _ [St cs a2 r2] (bc_dat' hx) (Tk.call P 29)
  refine ⟨[St cs a2 r2], rfl, ?_⟩
  rcases (by omega : i = 0 ∨ i = 1 ∨ i = 2 ∨ i = 3 ∨ i = 4 ∨ i = 5) with h | h | h | h | h | h <;> subst h
  · have e6 := c_refB 23 hx (w := .int 8) ⟨rfl, rfl, rfl⟩ m [St cs a2 r2]
    simpa?! [b55_s6, e1, e2, e3, e4, e5, e6, hy1, hy2, hx1, hx2, hx3, bin_rep3]
  · have e6 := c_refB 23 hx (w := .int (-1)) ⟨rfl, rfl, rfl⟩ m [St cs a2 r2]
    simpa?! [b55_s6, e1, e2, e3, e4, e5, e6, hy1, hy2, hx1, hx2, hx3, bin_rep3]
  · have e6 := c_refB 23 hx (w := .bl true) ⟨rfl, rfl, rfl⟩ m [St cs a2 r2]
    simpa?! [b55_s6, e1, e2, e3, e4, e5, e6, hy1, hy2, hx1, hx2, hx3, bin_rep3]
  · have e6 := c_refB 23 hx (w := .str "0") ⟨rfl, rfl, rfl⟩ m [St cs a2 r2]
    simpa?! [b55_s6, e1, e2, e3, e4, e5, e6, hy1, hy2, hx1, hx2, hx3, bin_rep3]
  · have e6 := c_refB 23 hx (w := .non) ⟨rfl, rfl, rfl⟩ m [St cs a2 r2]
    simpa?! [b55_s6, e1, e2, e3, e4, e5, e6, hy1, hy2, hx1, hx2, hx3, bin_rep3]
  · have e6 := c_refB 23 hx (w := .int e) ⟨rfl, rfl, rfl⟩ m [St cs a2 r2]
    simpa?! [b55_s6, e1, e2, e3, e4, e5, e6, hy1, hy2, hx1, hx2, hx3, bin_rep3]
theorem s6_W (hcs : ∀ z ∈ cs, z.natAbs < 2 ^ 1048576) {q : Q4} (hq : Qb q 84) (m : Int) {e : Int} (h0 : 0 ≤ e) (h7 : e ≤ 7) (v : V (k + 1) a r) : ∃ S', S'.length = 1 ∧ evS P (Tk.call P 29) b55_s6 (row sc (.val (.int 1)) (.val q.d) (.val (.int e)) (.val (.int m)) .emp .emp .emp .emp .emp .emp .emp .emp .emp .emp .emp .emp) [St cs a r] = .ret (.bl true) S' := by
  obtain ⟨i, a2, r2, i0, i6, v, e2⟩ := draw_ok 27 cs hcs (k := k) v (many := 6) (by decide) (by decide)
  have e4 := c_nop2 22 [St cs a2 r2]
  have hq' := hq.mono (k := 85) (by decide)
  have c8 : ¬ (8 : Int) = e := by omega
  have c1 : ¬ (-1 : Int) = e := by omega
  refine ⟨[St cs a2 r2], rfl, ?_⟩
  rcases (by omega : i = 0 ∨ i = 1 ∨ i = 2 ∨ i = 3 ∨ i = 4 ∨ i = 5) with h | h | h | h | h | h <;> subst h
  · have e6 := c_refW 23 .i8 hq' m [St cs a2 r2]
    have e5 := eq_ln _ [St cs a2 r2] (told_dat .i8) (Tk.call P 29)
    simpa?! [b55_s6, e2, e4, e5, e6, c8, eq_bb]
  · have e6 := c_refW 23 .m1 hq' m [St cs a2 r2]
    have e5 := eq_ln _ [St cs a2 r2] (told_dat .m1) (Tk.call P 29)
    simpa?! [b55_s6, e2, e4, e5, e6, c1, eq_bb]
  · have e6 := c_refW 23 .t hq' m [St cs a2 r2]
    have e5 := eq_ln _ [St cs a2 r2] (told_dat .t) (Tk.call P 29)
    have e7 := eq_bi (Tk.call P 29) e [St cs a2 r2]
    generalize eqB (.bl true) (.int e) = b at *
    cases b <;> simpa?! [b55_s6, e2, e4, e5, e6, e7, eq_bb]
  · have e6 := c_refW 23 .s hq' m [St cs a2 r2]
    have e5 := eq_ln _ [St cs a2 r2] (told_dat .s) (Tk.call P 29)
    simpa?! [b55_s6, e2, e4, e5, e6, eq_si, eq_bb]
  · have e6 := c_refW 23 .n hq' m [St cs a2 r2]
    have e5 := eq_ln _ [St cs a2 r2] (told_dat .n) (Tk.call P 29)
    simpa?! [b55_s6, e2, e4, e5, e6, eq_ni, eq_bb]
  · have e6 := c_refO 23 h0 h7 hq' m [St cs a2 r2]
    have e5 := eq_ln _ [St cs a2 r2] told_dat3 (Tk.call P 29)
    simpa?! [b55_s6, e2, e4, e5, e6, eq_bb]
/-! ### both corners -/
def B90 : CS := (.setT [16, 17] (.call 43 (.cons (.var 7) .nil)))
def B91 : CS := (.ite (.not (.call 42 (.cons (.call 28 (.cons (.var 7) .nil)) (.cons (.var 16) (.cons (.var 17) .nil))))) (.cons (.ret (.bl false))
 .nil) .nil)
def B92 : CS := (.setT [16, 17] (.call 44 (.cons (.var 7) .nil)))
def B93 : CS := (.ite (.not (.call 42 (.cons (.call 29 (.cons (.var 7) .nil)) (.cons (.var 16) (.cons (.var 17) .nil))))) (.cons (.ret (.bl false))
 .nil) .nil)
def B9 : CB := (.cons B90 (.cons B91 (.cons B92 (.cons B93 .nil))))
theorem B9_eq : b55_s9 = .for_ (.nm 7) (.seq (.lst (.cons (.var 3) (.cons (.var 6) .nil)))) B9 := rfl
theorem bothc {q : Q4} (hq : Qb q 86) (S : Sto) {s2 s3 s4 s5 s6 s8 s9 s10 s11 s12 s13 s14 s15 s16 s17 : Tk.Slot} : ∃ s16' s17', evB P (Tk.call P 29) B9 (row sc s2 s3 s4 s5 s6 (.val q.d) s8 s9 s10 s11 s12 s13 s14 s15 s16 s17) S = .next (row sc s2 s3 s4 s5 s6 (.val q.d) s8 s9 s10 s11 s12 s13 s14 s15 s16' s17') S := by
  have l1 := c_lpl 28 hq (by decide) S
  have l2 := c_lst 28 hq (by decide) S
  obtain ⟨x, hx, e1⟩ := c_place 24 hq (by decide) S
  obtain ⟨y, hy, e2⟩ := c_star 24 hq (by decide) S
  obtain ⟨h1, h2, h3, h4, h5⟩ := tells_ok hx
  obtain ⟨g1, g2, g3, g4, g5⟩ := tells_ok hy
  have e3 := c_ispt 25 hx S
  have e4 := c_ispt 25 hy S
  refine ⟨.val (.tup [.int (sta q).a, .int (sta q).b, .int 2]), .val (.tup [.int (sta q).c, .int (sta q).e, .int 2]), ?_⟩
  generalize plc q = G at *
  generalize sta q = K at *
  unfold P2.d at l1 l2
  simpa?! [B9, B90, B91, B92, B93, l1, l2, e1, e2, e3, e4, h1, h2, h3, h4, h5, g1, g2, g3, g4, g5]
theorem l_all (cs : List Int) (hcs : ∀ z ∈ cs, z.natAbs < 2 ^ 1048576) (sc : D) : ∃ S', evB P (Tk.call P 29) b55_t1 (row sc .emp .emp .emp .emp .emp .emp .emp .emp .emp .emp .emp .emp .emp .emp .emp .emp) [St cs 0 0] = .ret (.bl true) S' ∧ S'.length = 1 := by
  have v : V (400 + 1) 0 0 := ⟨by decide, by decide, by decide, Nat.two_pow_pos _⟩
  obtain ⟨d, a1, r1, hd1, hd2, v, e1⟩ := draw_ok 27 cs hcs v (many := 8) (by decide) (by decide)
  obtain ⟨q, a2, r2, hq, v, e2⟩ := l_corner (k := 350) 25 hcs (v.mono (by decide))
  obtain ⟨e, a3, r3, h0, h8, v, e3⟩ := draw_ok 27 cs hcs (k := 340) (v.mono (by decide)) (many := 8) (by decide) (by decide)
  obtain ⟨m0, a4, r4, hm0, hm1, v, e4⟩ := btw_ok 26 cs hcs (k := 330) (v.mono (by decide)) (lo := -9) (hi := 9) (by decide) (by decide)
  have h7 : e ≤ 7 := by omega
  have h5 : ∃ m a5 r5, Bnd m 84 ∧ V 300 a5 r5 ∧ evS P (Tk.call P 29) b55_s5 (row sc (.val (.int d)) (.val q.d) (.val (.int e)) (.val (.int m0)) .emp .emp .emp .emp .emp .emp .emp .emp .emp .emp .emp .emp) [St cs a4 r4] = .next (row sc (.val (.int d)) (.val q.d) (.val (.int e)) (.val (.int m)) .emp .emp .emp .emp .emp .emp .emp .emp .emp .emp .emp .emp) [St cs a5 r5] := by
    obtain ⟨j, a5, r5, j0, j3, v, e5⟩ := draw_ok 27 cs hcs (k := 320) (v.mono (by decide)) (many := 3) (by decide) (by decide)
    by_cases hj : j = 0
    · obtain ⟨m, a6, r6, l1, l2, v, e6⟩ := btw_ok 26 cs hcs (k := 310) (v.mono (by decide)) (lo := -100000000000000000000) (hi := 100000000000000000000) (by decide) (by decide)
      refine ⟨m, a6, r6, ⟨by omega⟩, v.mono (by decide), ?_⟩
      simpa?! [b55_s5, e5, hj, e6, Int.reducePow, Int.reduceNeg]
    · exact ⟨m0, a5, r5, ⟨by omega⟩, v.mono (by decide), by simpa?! [b55_s5, e5, hj]⟩
  obtain ⟨m, a5, r5, hm, v, e5⟩ := h5
  by_cases d0 : d = 0
  · subst d0
    obtain ⟨S', hS, e6⟩ := s6_B (k := 200) hcs hq m e (v.mono (by decide)) (sc := sc)
    refine ⟨S', ?_, hS⟩
    generalize hT : b55_t7 = T at *
    have k6 : b55_t6 = .cons b55_s6 T := by rw [← hT]; rfl
    simpa?! [b55_t1, b55_t2, b55_t3, b55_t4, b55_t5, k6, b55_s1, b55_s2, b55_s3, b55_s4, e1, e2, e3, e4, e5, e6]
  by_cases d1 : d = 1
  · subst d1
    obtain ⟨S', hS, e6⟩ := s6_W (k := 200) hcs hq m h0 h7 (v.mono (by decide)) (sc := sc)
    refine ⟨S', ?_, hS⟩
    generalize hT : b55_t7 = T at *
    have k6 : b55_t6 = .cons b55_s6 T := by rw [← hT]; rfl
    simpa?! [b55_t1, b55_t2, b55_t3, b55_t4, b55_t5, k6, b55_s1, b55_s2, b55_s3, b55_s4, e1, e2, e3, e4, e5, e6]
  have hd : ¬ d < 2 := by omega
  have e6 : evS P (Tk.call P 29) b55_s6 (row sc (.val (.int d)) (.val q.d) (.val (.int e)) (.val (.int m)) .emp .emp .emp .emp .emp .emp .emp .emp .emp .emp .emp .emp) [St cs a5 r5] = .next (row sc (.val (.int d)) (.val q.d) (.val (.int e)) (.val (.int m)) .emp .emp .emp .emp .emp .emp .emp .emp .emp .emp .emp .emp) [St cs a5 r5] := by
    simpa?! [b55_s6, hd]
  have hq6 := hq.mono (k := 86) (by decide)
  have hl : Qb (stm q e m) 85 := stm_b hq hm
  have hb : Qb (stm q e 1) 85 := stm_b hq ⟨by decide⟩
  generalize hS : [St cs a5 r5] = S at *
  have e7 := c_steppedm 25 q h0 h7 m S
  have e8 := c_lstepm 28 q h0 h7 m S
  have f8 := c_lisc 28 (stm q e m) S
  have g8 := ne_q (stm q e m) S (Tk.call P 29)
  have e10 := c_steppedm 25 q h0 h7 1 S
  have u1 := u_pl q h0 h7
  have u2 := u_st q h0 h7
  have p1 := plc_b hb
  have p2 := plc_b hq6
  have p3 := sta_b hb
  have p4 := sta_b hq6
  obtain ⟨x, hx, ex⟩ := c_place 24 (hb.mono (k := 86) (by decide)) (by decide) S
  obtain ⟨y, hy, ey⟩ := c_place 24 hq6 (by decide) S
  obtain ⟨x', hx', ex'⟩ := c_star 24 (hb.mono (k := 86) (by decide)) (by decide) S
  obtain ⟨y', hy', ey'⟩ := c_star 24 hq6 (by decide) S
  have up : ∀ {z : Int}, Bnd z (85 + 2) → Bnd z 88 := fun b => b.mono (by decide)
  obtain ⟨z, z1, z2, z3, z4⟩ := c_one 24 hx hy (m := 88) (up p1.b0) (up p1.b1) (up p1.b2) (up p1.b3) p2.b0 p2.b1 p2.b2 p2.b3 (by decide) (by decide) u1 S
  obtain ⟨z', z1', z2', z3', z4'⟩ := c_one 24 hx' hy' (m := 88) (up p3.b0) (up p3.b1) (up p3.b2) (up p3.b3) p4.b0 p4.b1 p4.b2 p4.b3 (by decide) (by decide) u2 S
  obtain ⟨h1, h2, h3, h4, h5⟩ := tells_ok hx
  obtain ⟨h1', h2', h3', h4', h5'⟩ := tells_ok hy
  obtain ⟨g1, g2, g3, g4, g5⟩ := tells_ok hx'
  obtain ⟨g1', g2', g3', g4', g5'⟩ := tells_ok hy'
  have q9 : b55_s9 = .for_ (.nm 7) (.seq (.lst (.cons (.var 3) (.cons (.var 6) .nil)))) B9 := rfl
  obtain ⟨i16, i17, e9⟩ := bothc (sc := sc) hq6 S (s2 := .val (.int d)) (s3 := .val q.d) (s4 := .val (.int e)) (s5 := .val (.int m)) (s6 := .val (stm q e m).d) (s8 := .emp) (s9 := .emp) (s10 := .emp) (s11 := .emp) (s12 := .emp) (s13 := .emp) (s14 := .emp) (s15 := .emp) (s16 := .emp) (s17 := .emp)
  obtain ⟨j16, j17, e9'⟩ := bothc (sc := sc) (hl.mono (k := 86) (by decide)) S (s2 := .val (.int d)) (s3 := .val q.d) (s4 := .val (.int e)) (s5 := .val (.int m)) (s6 := .val (stm q e m).d) (s8 := .emp) (s9 := .emp) (s10 := .emp) (s11 := .emp) (s12 := .emp) (s13 := .emp) (s14 := .emp) (s15 := .emp) (s16 := i16) (s17 := i17)
  have w6 : evS P (Tk.call P 29) b55_s7 (row sc (.val (.int d)) (.val q.d) (.val (.int e)) (.val (.int m)) .emp .emp .emp .emp .emp .emp .emp .emp .emp .emp .emp .emp) S = .next (row sc (.val (.int d)) (.val q.d) (.val (.int e)) (.val (.int m)) (.val (stm q e m).d) .emp .emp .emp .emp .emp .emp .emp .emp .emp .emp .emp) S := by
    simpa?! [b55_s7, e7]
  have w8 : evS P (Tk.call P 29) b55_s8 (row sc (.val (.int d)) (.val q.d) (.val (.int e)) (.val (.int m)) (.val (stm q e m).d) .emp .emp .emp .emp .emp .emp .emp .emp .emp .emp .emp) S = .next (row sc (.val (.int d)) (.val q.d) (.val (.int e)) (.val (.int m)) (.val (stm q e m).d) .emp .emp .emp .emp .emp .emp .emp .emp .emp .emp .emp) S := by
    simpa?! [b55_s8, e8, f8, g8]
  have w9 : evS P (Tk.call P 29) b55_s9 (row sc (.val (.int d)) (.val q.d) (.val (.int e)) (.val (.int m)) (.val (stm q e m).d) .emp .emp .emp .emp .emp .emp .emp .emp .emp .emp .emp) S = .next (row sc (.val (.int d)) (.val q.d) (.val (.int e)) (.val (.int m)) (.val (stm q e m).d) (.val (stm q e m).d) .emp .emp .emp .emp .emp .emp .emp .emp j16 j17) S := by
    simpa?! [q9, e9, e9']
  have w10 : evS P (Tk.call P 29) b55_s10 (row sc (.val (.int d)) (.val q.d) (.val (.int e)) (.val (.int m)) (.val (stm q e m).d) (.val (stm q e m).d) .emp .emp .emp .emp .emp .emp .emp .emp j16 j17) S = .next (row sc (.val (.int d)) (.val q.d) (.val (.int e)) (.val (.int m)) (.val (stm q e m).d) (.val (stm q e m).d) (.val (stm q e 1).d) .emp .emp .emp .emp .emp .emp .emp j16 j17) S := by
    simpa?! [b55_s10, e10]
  have w11 : evS P (Tk.call P 29) b55_s11 (row sc (.val (.int d)) (.val q.d) (.val (.int e)) (.val (.int m)) (.val (stm q e m).d) (.val (stm q e m).d) (.val (stm q e 1).d) .emp .emp .emp .emp .emp .emp .emp j16 j17) S = .next (row sc (.val (.int d)) (.val q.d) (.val (.int e)) (.val (.int m)) (.val (stm q e m).d) (.val (stm q e m).d) (.val (stm q e 1).d) .emp .emp .emp .emp .emp .emp .emp j16 j17) S := by
    have c1 := c_eqI 27 1 0 1 1 S
    simpa?! [b55_s11, ex, ey, ex', ey', z1, z2, z3, z4, z1', z2', z3', z4', h1, h2, h3, h4, h5, h1', h2', h3', h4', h5', g1, g2, g3, g4, g5, g1', g2', g3', g4', g5', c1]
  clear e7 e8 f8 g8 e10 e9 e9' ex ey ex' ey' z3 z4 z3' z4'
  subst hS
  obtain ⟨t, a6, r6, t0, t4, v, e12⟩ := draw_ok 27 cs hcs (k := 250) (v.mono (by decide)) (many := 4) (by decide) (by decide)
  have main : ∃ S', S'.length = 1 ∧ evB P (Tk.call P 29) b55_t12 (row sc (.val (.int d)) (.val q.d) (.val (.int e)) (.val (.int m)) (.val (stm q e m).d) (.val (stm q e m).d) (.val (stm q e 1).d) .emp .emp .emp .emp .emp .emp .emp j16 j17) [St cs a5 r5] = .ret (.bl true) S' := by
    by_cases ht : t = 0
    · have c1 := c_led 21 hq6 (A := 0) (B := 0) (C := 1) (A2 := 0) (B2 := 0) (C2 := 1) ⟨by decide⟩ ⟨by decide⟩ ⟨by decide⟩ ⟨by decide⟩ ⟨by decide⟩ ⟨by decide⟩ (by decide) (by decide) [St cs a6 r6]
      exact ⟨[St cs a6 r6], rfl, by simpa?! [b55_t12, b55_s12, e12, ht, c1]⟩
    · obtain ⟨y0, a7, r7, l0, k0, v, f0⟩ := btw_ok 26 cs hcs (k := 240) (v.mono (by decide)) (lo := -6) (hi := 6) (by decide) (by decide)
      obtain ⟨y1, a8, r8, l1, k1, v, f1⟩ := btw_ok 26 cs hcs (k := 230) (v.mono (by decide)) (lo := -2) (hi := 2) (by decide) (by decide)
      obtain ⟨y2, a9, r9, l2, k2, v, f2⟩ := btw_ok 26 cs hcs (k := 220) (v.mono (by decide)) (lo := -6) (hi := 6) (by decide) (by decide)
      obtain ⟨y3, a10, r10, l3, k3, v, f3⟩ := btw_ok 26 cs hcs (k := 210) (v.mono (by decide)) (lo := -2) (hi := 2) (by decide) (by decide)
      obtain ⟨t2, a11, r11, o0, o2, v, f4⟩ := draw_ok 27 cs hcs (k := 200) (v.mono (by decide)) (many := 2) (by decide) (by decide)
      have n1 : Bnd y1 2 := ⟨by omega⟩
      have n3 : Bnd y3 2 := ⟨by omega⟩
      by_cases ht2 : t2 = 0
      · obtain ⟨y4, a12, r12, l4, k4, v, f5⟩ := btw_ok 26 cs hcs (k := 190) (v.mono (by decide)) (lo := -3) (hi := 3) (by decide) (by decide)
        obtain ⟨y5, a13, r13, l5, k5, v, f6⟩ := btw_ok 26 cs hcs (k := 180) (v.mono (by decide)) (lo := -3) (hi := 3) (by decide) (by decide)
        have n4 : Bnd y4 2 := ⟨by omega⟩
        have n5 : Bnd y5 2 := ⟨by omega⟩
        have c1 := c_led 21 hq6 (A := 6 * y4) (B := 3 * y1) (C := 6) (A2 := 6 * y5) (B2 := 3 * y3) (C2 := 6) ⟨by omega⟩ ⟨by omega⟩ ⟨by decide⟩ ⟨by omega⟩ ⟨by omega⟩ ⟨by decide⟩ (by decide) (by decide) [St cs a13 r13]
        exact ⟨[St cs a13 r13], rfl, by simpa?! [b55_t12, b55_t13, b55_t14, b55_t15, b55_t16, b55_s12, b55_s13, b55_s14, b55_s15, b55_s16, e12, ht, f0, f1, f2, f3, f4, ht2, f5, f6, c1, Int.reduceNeg]⟩
      · have c1 := c_led 21 hq6 (A := y0) (B := 3 * y1) (C := 6) (A2 := y2) (B2 := 3 * y3) (C2 := 6) ⟨by omega⟩ ⟨by omega⟩ ⟨by decide⟩ ⟨by omega⟩ ⟨by omega⟩ ⟨by decide⟩ (by decide) (by decide) [St cs a11 r11]
        exact ⟨[St cs a11 r11], rfl, by simpa?! [b55_t12, b55_t13, b55_t14, b55_t15, b55_t16, b55_s12, b55_s13, b55_s14, b55_s15, b55_s16, e12, ht, f0, f1, f2, f3, f4, ht2, c1, Int.reduceNeg]⟩
  obtain ⟨S', hS', e13⟩ := main
  refine ⟨S', ?_, hS'⟩
  generalize hT : b55_t12 = T at *
  have k11 : b55_t11 = .cons b55_s11 T := by rw [← hT]; rfl
  simpa?! [b55_t1, b55_t2, b55_t3, b55_t4, b55_t5, b55_t6, b55_t7, b55_t8, b55_t9, b55_t10, k11, b55_s1, b55_s2, b55_s3, b55_s4, e1, e2, e3, e4, e5, e6, w6, w8, w9, w10, w11, e13]
end
theorem law_runs (ns : List Int) (h : ns.length ≤ 63) (hb : ∀ z ∈ ns, PySem.Builtin.Int.intBits z ≤ 1048576) : ∃ S, Tk.call P 30 55 [.scr (ns.map D.int)] [] = .ok (.bl true) S := by
  have hcs : ∀ z ∈ cutI ns, z.natAbs < 2 ^ 1048576 := by
    intro z hz
    have hz : z ∈ ns := List.mem_of_mem_drop (List.mem_of_mem_take hz)
    have h1 := hb z hz
    unfold PySem.Builtin.Int.intBits at h1
    by_cases q : z = 0
    · subst q; exact Nat.two_pow_pos _
    · rw [if_neg (by simpa using q)] at h1
      exact Nat.lt_of_lt_of_le Nat.lt_log2_self (Nat.pow_le_pow_right (by decide) h1)
  obtain ⟨S', e, hl⟩ := l_all (cutI ns) hcs (.scr (ns.map D.int))
  have c := c_start ns []
  refine ⟨[], ?_⟩
  simpa?! [r55, b55_t0, b55_s0, c, e, fin_law hl]
end Pg
open PySem PySem.W PySem.Calls PyProof.Rows
theorem PySem.Challenge.cw_threetiles_k04_places_and_stars_holds : PySem.Challenge.rw_threetiles_k04_places_and_stars.Holds := by
  w_on; o_law
  refine HandSHeadRun.head_any (r := OpenLaw.row PySem.Challenge.rw_threetiles_k04_places_and_stars) (q := view (OpenLaw.row PySem.Challenge.rw_threetiles_k04_places_and_stars).prog [57]) (H := Pg.hk) (ob := Pg.ob) (M := 8000) (loose := Pg.loose) (d := HandSHeadRun.topDef (OpenLaw.row PySem.Challenge.rw_threetiles_k04_places_and_stars).prog 57) (kwd := []) Pg.ob_eq
    (by kernel_rfl) (fun s => by kernel_rfl) Pg.run (by kernel_rfl) (by kernel_rfl) (by kernel_rfl) (by rfl) (by first | assumption | decide +kernel) (by decide +kernel) ⟨rfl, rfl, rfl, rfl, rfl, by decide +kernel⟩ ?hw ?hc
  case hw => w_witness2
  case hc =>
    refine Tk.walk_core (l := PySem.Challenge.rw_threetiles_k04_places_and_stars) (m := 63) (N := 30) (f := 55) (x := "_law_script") (G := Pg.P) rfl (by decide) (by kernel_rfl) ⟨rfl, by decide, by decide⟩ ?F Pg.law_runs
    intro w mg fa h Y Gn hmg0
    obtain ⟨K, KX, c⟩ := Y
    have hmg : mg ("law" : PySem.Str) = some (.ref fa) := by
      have e : (HandSHeadRun.topDef (OpenLaw.row PySem.Challenge.rw_threetiles_k04_places_and_stars).prog 57).name = ("law" : PySem.Str) := by kernel_rfl
      rw [← e]
      exact hmg0
    exact Tk.law_facts (P := (PySem.Challenge.rw_threetiles_k04_places_and_stars).prog) (w := w) (N := 29) KX Gn hmg c.t.d c.more (by decide +kernel) Pg.allW Pg.exs (d := Pg.pd55) rfl rfl rfl rfl rfl
