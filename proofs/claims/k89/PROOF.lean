import PyProof.Rows.All
import Wide.All
import OpenK.AllK
import Wide.FinOn
import HandS.ForMost
import HandS.Exc
import HandS.ExcOwn
import HandS.TryOnly
import HandS.TryMany
import HandS.WordsExc
import HandS.Lambda
import HandS.Star
import HandS.DictComp
import HandS.IsInst
import HandS.Evl
import HandS.Style
import HandS.Zip
import HandS.SortOrd
import HandS.Codes
import HandS.Iter
import KE.DataEq
import HandS.TupAny
import HandS.Wide
import HandS.Deep
import HandS.More
import HandS.Flow
import HandS.Small
import HandS.Steps
import HandS.SortInts
import HandS.TupLen
import HandS.WordsDict
import HandS.EndTab
import HandS.StrMore
import HandS.Replace
import KE.GoesEnum
import HandS.SortKw
import HandS.DictSubView
import KE.DataMinMax
import PySem.Challenge.RW_upwide_k89_whole_presence_papers_judged
section
set_option Elab.async false
set_option linter.all false
set_option maxRecDepth 100000
/-! Pure data over the hand layer: values as trees, and what a def makes of them. -/
namespace DL
open PySem L2 Evl

/-- a dict's key: an int, a text, a tuple of such -/
inductive DK where
  | i (n : Int) | s (x : List Nat) | t (ks : List (Int ⊕ List Nat))
  deriving DecidableEq

/-- a value as a tree; scr: a list that is read only (the script) -/
inductive D where
  | non | bl (b : Bool) | int (i : Int) | str (s : List Nat)
  | lst (xs : List D) | tup (xs : List D) | dct (t : Bool) (ks : List DK) (vs : List D) | fn (x : Str) | scr (xs : List D)

/-- what comes of a piece of code: a value, an own error by its class's name, or nothing is promised -/
inductive R (α : Type) where
  | ok (a : α) | exc (c : Str) | no
def R.bind {α β : Type} (x : R α) (f : α → R β) : R β := match x with
  | .ok a => f a | .exc c => .exc c | .no => .no
instance : Monad R where
  pure := R.ok
  bind := R.bind

/-- a slot: not known, a tree, an object of one's own that may be changed -/
inductive Sl where
  | un | pu (d : D) | mu (d : D)
abbrev Ga := List Sl
/-- an expression's end: a tree, or the object of a slot -/
inductive Res where
  | val (d : D) | cell (i : Nat)
def deref (γ : Ga) : Res → R D
  | .val d => .ok d
  | .cell i => match γ[i]? with
    | some (.mu d) => .ok d
    | some (.pu d) => .ok d
    | _ => .no

def strV (s : List Nat) : Str := ⟨s.toArray⟩
theorem strV_inj {a b : List Nat} (h : strV a = strV b) : a = b := by
  unfold strV at h; injection h with h; simpa using congrArg Array.toList h
def k0 : Int ⊕ List Nat → Key
  | .inl n => .inl n
  | .inr s => .inr (strV s)

inductive KsK : List DK → List Key → Prop
  | nil : KsK [] []
  | i {n : Int} {ks : List DK} {us : List Key} : KsK ks us → KsK (.i n :: ks) (.inl n :: us)
  | s {x : List Nat} {ks : List DK} {us : List Key} : KsK ks us → KsK (.s x :: ks) (.inr (strV x) :: us)
inductive KsT : List DK → List (List Key) → Prop
  | nil : KsT [] []
  | t {x : List (Int ⊕ List Nat)} {ks : List DK} {us : List (List Key)} : KsT ks us → KsT (.t x :: ks) (x.map k0 :: us)
mutual
inductive Rep (K : PySem.W.Frag) (mg : Str → Option Value) (P : Hp) : D → V → Prop
  | non : Rep K mg P .non .non
  | bl (b : Bool) : Rep K mg P (.bl b) (.bl b)
  | int (i : Int) : Rep K mg P (.int i) (.int i)
  | str (s : List Nat) (h : s.length ≤ sizeLine) : Rep K mg P (.str s) (.str (strV s))
  | lst {a : Addr} {ds : List D} {vs : List V} : P a = some (.lst vs) → RepL K mg P ds vs → Rep K mg P (.lst ds) (.ref a)
  | tup {a : Addr} {ds : List D} {vs : List V} : P a = some (.tup vs) → RepL K mg P ds vs → Rep K mg P (.tup ds) (.ref a)
  | scr {a : Addr} {ds : List D} {vs : List V} : SqL K P a vs → RepL K mg P ds vs → Rep K mg P (.scr ds) (.ref a)
  | dctK {a : Addr} {o : Obj} {ks : List DK} {ds : List D} {kvs : List (Key × V)} : P a = some (.frz o (.dK kvs)) → KsK ks (kvs.map (·.1)) → RepL K mg P ds (kvs.map (·.2)) → Rep K mg P (.dct false ks ds) (.ref a)
  | dctT {a : Addr} {o : Obj} {ks : List DK} {ds : List D} {kvs : List (List Key × V)} : P a = some (.frz o (.dT kvs)) → KsT ks (kvs.map (·.1)) → RepL K mg P ds (kvs.map (·.2)) → Rep K mg P (.dct true ks ds) (.ref a)
  | fn {x : Str} {a : Addr} : mg x = some (.ref a) → Rep K mg P (.fn x) (.ref a)
inductive RepL (K : PySem.W.Frag) (mg : Str → Option Value) (P : Hp) : List D → List V → Prop
  | nil : RepL K mg P [] []
  | cons {d : D} {ds : List D} {v : V} {vs : List V} : Rep K mg P d v → RepL K mg P ds vs → RepL K mg P (d :: ds) (v :: vs)
end

section
variable {K : PySem.W.Frag} {mg : Str → Option Value} {P P' H H' : Hp}
theorem ex_sql {a : Addr} {xs : List V} (e : Ex P P') (h : SqL K P a xs) : SqL K P' a xs := ex_l e h
mutual
theorem Rep.mono (e : Ex P P') : ∀ {d : D} {v : V}, Rep K mg P d v → Rep K mg P' d v
  | _, _, .non => .non
  | _, _, .bl b => .bl b
  | _, _, .int i => .int i
  | _, _, .str s h => .str s h
  | _, _, .lst h r => .lst (e _ _ h) (RepL.mono e r)
  | _, _, .tup h r => .tup (e _ _ h) (RepL.mono e r)
  | _, _, .scr h r => .scr (ex_l e h) (RepL.mono e r)
  | _, _, .dctK h k r => .dctK (e _ _ h) k (RepL.mono e r)
  | _, _, .dctT h k r => .dctT (e _ _ h) k (RepL.mono e r)
  | _, _, .fn h => .fn h
theorem RepL.mono (e : Ex P P') : ∀ {ds : List D} {vs : List V}, RepL K mg P ds vs → RepL K mg P' ds vs
  | _, _, .nil => .nil
  | _, _, .cons h r => .cons (Rep.mono e h) (RepL.mono e r)
end
theorem RepL.length : ∀ {ds : List D} {vs : List V}, RepL K mg P ds vs → ds.length = vs.length
  | _, _, .nil => rfl
  | _, _, .cons _ r => congrArg (· + 1) (RepL.length r)
theorem RepL.append : ∀ {ds es : List D} {vs us : List V}, RepL K mg P ds vs → RepL K mg P es us → RepL K mg P (ds ++ es) (vs ++ us)
  | _, _, _, _, .nil, s => s
  | _, _, _, _, .cons h r, s => .cons h (RepL.append r s)
theorem RepL.get : ∀ {ds : List D} {vs : List V} {i : Nat} {d : D}, RepL K mg P ds vs → ds[i]? = some d → ∃ v, vs[i]? = some v ∧ Rep K mg P d v
  | _, _, _, _, .nil, h => by simp at h
  | _, _, 0, _, .cons h _, e => by simp at e; subst e; exact ⟨_, rfl, h⟩
  | _, _, i + 1, d, .cons _ r, e => by
    obtain ⟨v, a, b⟩ := RepL.get (i := i) (d := d) r (by simpa using e)
    exact ⟨v, by simpa using a, b⟩
theorem RepL.set {d : D} {v : V} (h : Rep K mg P d v) : ∀ {ds : List D} {vs : List V} (i : Nat), RepL K mg P ds vs → RepL K mg P (ds.set i d) (vs.set i v)
  | _, _, _, .nil => .nil
  | _, _, 0, .cons _ r => .cons h r
  | _, _, i + 1, .cons q r => .cons q (RepL.set h i r)
theorem RepL.take : ∀ {ds : List D} {vs : List V} (n : Nat), RepL K mg P ds vs → RepL K mg P (ds.take n) (vs.take n)
  | _, _, 0, _ => .nil
  | _, _, _ + 1, .nil => .nil
  | _, _, n + 1, .cons h r => .cons h (RepL.take n r)
theorem RepL.drop : ∀ {ds : List D} {vs : List V} (n : Nat), RepL K mg P ds vs → RepL K mg P (ds.drop n) (vs.drop n)
  | _, _, 0, r => r
  | _, _, _ + 1, .nil => .nil
  | _, _, n + 1, .cons _ r => RepL.drop n r
theorem RepL.rev : ∀ {ds : List D} {vs : List V}, RepL K mg P ds vs → RepL K mg P ds.reverse vs.reverse
  | _, _, .nil => .nil
  | _, _, .cons h r => by
    rw [List.reverse_cons, List.reverse_cons]
    exact RepL.append (RepL.rev r) (.cons h .nil)

/-- only the top object is read in H, what is below in P -/
inductive RepW (K : PySem.W.Frag) (mg : Str → Option Value) (P H : Hp) : D → V → Prop
  | non : RepW K mg P H .non .non
  | bl (b : Bool) : RepW K mg P H (.bl b) (.bl b)
  | int (i : Int) : RepW K mg P H (.int i) (.int i)
  | str (s : List Nat) (h : s.length ≤ sizeLine) : RepW K mg P H (.str s) (.str (strV s))
  | lst {a : Addr} {ds : List D} {vs : List V} : H a = some (.lst vs) → RepL K mg P ds vs → RepW K mg P H (.lst ds) (.ref a)
  | tup {a : Addr} {ds : List D} {vs : List V} : P a = some (.tup vs) → RepL K mg P ds vs → RepW K mg P H (.tup ds) (.ref a)
  | scr {a : Addr} {ds : List D} {vs : List V} : SqL K P a vs → RepL K mg P ds vs → RepW K mg P H (.scr ds) (.ref a)
  | dctK {a : Addr} {ks : List DK} {ds : List D} {kvs : List (Key × V)} : Rd H a (.dK kvs) → KsK ks (kvs.map (·.1)) → RepL K mg P ds (kvs.map (·.2)) → RepW K mg P H (.dct false ks ds) (.ref a)
  | dctT {a : Addr} {ks : List DK} {ds : List D} {kvs : List (List Key × V)} : Rd H a (.dT kvs) → KsT ks (kvs.map (·.1)) → RepL K mg P ds (kvs.map (·.2)) → RepW K mg P H (.dct true ks ds) (.ref a)
  | fn {x : Str} {a : Addr} : mg x = some (.ref a) → RepW K mg P H (.fn x) (.ref a)
theorem Rep.w (e : Ex P H) : ∀ {d : D} {v : V}, Rep K mg P d v → RepW K mg P H d v
  | _, _, .non => .non
  | _, _, .bl b => .bl b
  | _, _, .int i => .int i
  | _, _, .str s h => .str s h
  | _, _, .lst h r => .lst (e _ _ h) r
  | _, _, .tup h r => .tup h r
  | _, _, .scr h r => .scr h r
  | _, _, .dctK h k r => .dctK (.inr ⟨_, e _ _ h⟩) k r
  | _, _, .dctT h k r => .dctT (.inr ⟨_, e _ _ h⟩) k r
  | _, _, .fn h => .fn h
theorem RepW.mono (e : Ex P P') (g : Ex H H') : ∀ {d : D} {v : V}, RepW K mg P H d v → RepW K mg P' H' d v
  | _, _, .non => .non
  | _, _, .bl b => .bl b
  | _, _, .int i => .int i
  | _, _, .str s h => .str s h
  | _, _, .lst h r => .lst (g _ _ h) (r.mono e)
  | _, _, .tup h r => .tup (e _ _ h) (r.mono e)
  | _, _, .scr h r => .scr (ex_l e h) (r.mono e)
  | _, _, .dctK h k r => .dctK (ex_rd g h) k (r.mono e)
  | _, _, .dctT h k r => .dctT (ex_rd g h) k (r.mono e)
  | _, _, .fn h => .fn h
end

/-- an object of one's own at a -/
def Own (K : PySem.W.Frag) (mg : Str → Option Value) (P H : Hp) (d : D) (a : Addr) : Prop :=
  (∃ ds vs, d = .lst ds ∧ H a = some (.lst vs) ∧ RepL K mg P ds vs) ∨
  (∃ ks ds kvs, d = .dct false ks ds ∧ H a = some (.dK kvs) ∧ KsK ks (kvs.map (·.1)) ∧ RepL K mg P ds (kvs.map (·.2))) ∨
  (∃ ks ds kvs, d = .dct true ks ds ∧ H a = some (.dT kvs) ∧ KsT ks (kvs.map (·.1)) ∧ RepL K mg P ds (kvs.map (·.2)))
section
variable {K : PySem.W.Frag} {mg : Str → Option Value} {P P' H H' : Hp} {d : D} {a : Addr}
theorem Own.w (h : Own K mg P H d a) : RepW K mg P H d (.ref a) := by
  rcases h with ⟨ds, vs, rfl, h, r⟩ | ⟨ks, ds, kvs, rfl, h, k, r⟩ | ⟨ks, ds, kvs, rfl, h, k, r⟩
  · exact .lst h r
  · exact .dctK (.inl h) k r
  · exact .dctT (.inl h) k r
theorem Own.mono (e : Ex P P') (g : ∀ o, H a = some o → H' a = some o) (h : Own K mg P H d a) : Own K mg P' H' d a := by
  rcases h with ⟨ds, vs, rfl, h, r⟩ | ⟨ks, ds, kvs, rfl, h, k, r⟩ | ⟨ks, ds, kvs, rfl, h, k, r⟩
  · exact .inl ⟨ds, vs, rfl, g _ h, r.mono e⟩
  · exact .inr (.inl ⟨ks, ds, kvs, rfl, g _ h, k, r.mono e⟩)
  · exact .inr (.inr ⟨ks, ds, kvs, rfl, g _ h, k, r.mono e⟩)
theorem Own.there (h : Own K mg P H d a) : ∃ o, H a = some o ∧ Mut (some o) := by
  rcases h with ⟨ds, vs, rfl, h, r⟩ | ⟨ks, ds, kvs, rfl, h, k, r⟩ | ⟨ks, ds, kvs, rfl, h, k, r⟩
  · exact ⟨_, h, trivial⟩
  · exact ⟨_, h, trivial⟩
  · exact ⟨_, h, trivial⟩
/-- an object that does not change any more: a dict is locked for good -/
def lockAt (o : Obj) : HO → HO
  | .dK kvs => .frz o (.dK kvs)
  | .dT kvs => .frz o (.dT kvs)
  | u => u
theorem Own.obj (h : Own K mg P H d a) : ∃ u, H a = some u ∧ Mut (some u) ∧ (∀ φ, u ≠ .ext φ) ∧ ((∃ vs, u = .lst vs) ∨ (∃ kvs, u = .dK kvs) ∨ ∃ kvs, u = .dT kvs) := by
  rcases h with ⟨ds, vs, rfl, h, r⟩ | ⟨ks, ds, kvs, rfl, h, k, r⟩ | ⟨ks, ds, kvs, rfl, h, k, r⟩
  · exact ⟨_, h, trivial, fun _ z => (by cases z), .inl ⟨_, rfl⟩⟩
  · exact ⟨_, h, trivial, fun _ z => (by cases z), .inr (.inl ⟨_, rfl⟩)⟩
  · exact ⟨_, h, trivial, fun _ z => (by cases z), .inr (.inr ⟨_, rfl⟩)⟩
/-- given over to what does not change any more -/
theorem Own.give (h : Own K mg P H d a) (n : P a = none) {u : HO} (hu : H a = some u) (o : Obj) : Rep K mg (upd P a (lockAt o u)) d (.ref a) := by
  rcases h with ⟨ds, vs, rfl, h, r⟩ | ⟨ks, ds, kvs, rfl, h, k, r⟩ | ⟨ks, ds, kvs, rfl, h, k, r⟩
  · rw [h] at hu; cases hu; exact .lst upd_same (r.mono (Ex.new n))
  · rw [h] at hu; cases hu; exact .dctK upd_same k (r.mono (Ex.new n))
  · rw [h] at hu; cases hu; exact .dctT upd_same k (r.mono (Ex.new n))
end

/-- the entry: the heap and what of it is known, the slots, the places of parameters that may be changed, the tables of code objects -/
structure Ent where
  H0 : Hp
  P0 : Hp
  σ0 : L2.St
  ms : List Nat
  T : List (Addr × Str)
/-- what a def may change of what it met -/
def Ent.M (En : Ent) (a : Addr) : Prop := (∃ i ∈ En.ms, En.σ0[i]? = some (some (.ref a))) ∨ a ∈ En.T.map (·.1)
/-- what an expression may change -/
def MuAt (T : List (Addr × Str)) (σ : L2.St) (γ : Ga) (a : Addr) : Prop := (∃ (i : Nat) (d : D), γ[i]? = some (.mu d) ∧ σ[i]? = some (some (.ref a))) ∨ a ∈ T.map (·.1)

structure Sat (K : PySem.W.Frag) (mg : Str → Option Value) (En : Ent) (P : Hp) (σ : L2.St) (H : Hp) (γ : Ga) : Prop where
  sub : Ex P H
  len : σ.length = γ.length
  old : Ex En.P0 P
  new : ∀ a, P a ≠ none → En.P0 a ≠ none ∨ En.H0 a = none ∨ ∃ xs, H a = some (.tup xs)
  keep : ∀ a o, En.H0 a = some o → ¬ En.M a → H a = some o
  dom : ∀ a, En.H0 a ≠ none → H a ≠ none
  tab : LamX.Tabs En.T H
  tabP : ∀ p ∈ En.T, P p.1 = none
  pu : ∀ (i : Nat) (d : D), γ[i]? = some (.pu d) → ∃ v, σ[i]? = some (some v) ∧ Rep K mg P d v
  mu : ∀ (i : Nat) (d : D), γ[i]? = some (.mu d) → ∃ a, σ[i]? = some (some (.ref a)) ∧ P a = none ∧ Own K mg P H d a ∧ ((i ∈ En.ms ∧ σ[i]? = En.σ0[i]?) ∨ (i ∉ En.ms ∧ En.H0 a = none))
  ne : ∀ (i j : Nat) (d e : D), i ≠ j → γ[i]? = some (.mu d) → γ[j]? = some (.mu e) → σ[i]? ≠ σ[j]?

/-- from one state to a later one -/
structure Stp (T : List (Addr × Str)) (σ : L2.St) (γ : Ga) (P H : Hp) (γ' : Ga) (P' H' : Hp) : Prop where
  ph : Ex P P'
  new : ∀ a, P' a ≠ none → P a ≠ none ∨ H a = none ∨ MuAt T σ γ a ∨ ∃ xs, H' a = some (.tup xs)
  keep : ∀ a o, H a = some o → ¬ MuAt T σ γ a → H' a = some o
  dom : ∀ a, H a ≠ none → H' a ≠ none
  mus : ∀ a, MuAt T σ γ' a → MuAt T σ γ a
  tups : ∀ a xs, H a = some (.tup xs) → H' a = some (.tup xs)
end DL
end
section
set_option Elab.async false
set_option linter.all false
set_option maxRecDepth 100000
namespace DL
open PySem L2 Evl

section
variable {K : PySem.W.Frag} {mg : Str → Option Value} {En : Ent} {P P1 P2 H H1 H2 : Hp} {σ : L2.St} {γ γ1 γ2 : Ga}
def ResRep (K : PySem.W.Frag) (mg : Str → Option Value) (P : Hp) (σ : L2.St) : Res → V → Prop
  | .val d, v => Rep K mg P d v
  | .cell i, v => σ[i]? = some (some v)
inductive ResReps (K : PySem.W.Frag) (mg : Str → Option Value) (P : Hp) (σ : L2.St) : List Res → List V → Prop
  | nil : ResReps K mg P σ [] []
  | cons {r : Res} {v : V} {rs : List Res} {vs : List V} : ResRep K mg P σ r v → ResReps K mg P σ rs vs → ResReps K mg P σ (r :: rs) (v :: vs)
theorem ResRep.mono (e : Ex P P1) : ∀ {r : Res} {v : V}, ResRep K mg P σ r v → ResRep K mg P1 σ r v
  | .val _, _, h => Rep.mono e h
  | .cell _, _, h => h
theorem ResReps.mono (e : Ex P P1) : ∀ {r : List Res} {v : List V}, ResReps K mg P σ r v → ResReps K mg P1 σ r v
  | _, _, .nil => .nil
  | _, _, .cons h r => .cons (h.mono e) (r.mono e)
theorem Sat.w (S : Sat K mg En P σ H γ) {r : Res} {v : V} {d : D} (h : ResRep K mg P σ r v) (e : deref γ r = .ok d) : RepW K mg P H d v := by
  cases r with
  | val d' =>
    have e' : d' = d := by simpa [deref] using e
    subst e'
    exact Rep.w S.sub h
  | cell i =>
    have h : σ[i]? = some (some v) := h
    unfold deref at e
    cases q : γ[i]? with
    | none => simp [q] at e
    | some s =>
      cases s with
      | un => simp [q] at e
      | pu d' =>
        simp [q] at e; subst e
        obtain ⟨v', h1, h2⟩ := S.pu i d' q
        rw [h1] at h; cases h
        exact Rep.w S.sub h2
      | mu d' =>
        simp [q] at e; subst e
        obtain ⟨a, h1, h2, h3, _⟩ := S.mu i d' q
        rw [h1] at h; cases h
        exact h3.w
theorem Stp.refl {T : List (Addr × Str)} : Stp T σ γ P H γ P H :=
  ⟨Ex.refl P, fun _ h => .inl h, fun _ _ h _ => h, fun _ h => h, fun _ h => h, fun _ _ h => h⟩
theorem Stp.trans {T : List (Addr × Str)} (a : Stp T σ γ P H γ1 P1 H1) (b : Stp T σ γ1 P1 H1 γ2 P2 H2) : Stp T σ γ P H γ2 P2 H2 where
  ph := a.ph.trans b.ph
  new := fun x h => by
    rcases b.new x h with h | h | h | h
    · rcases a.new x h with h | h | h | ⟨xs, h⟩
      · exact .inl h
      · exact .inr (.inl h)
      · exact .inr (.inr (.inl h))
      · exact .inr (.inr (.inr ⟨xs, b.tups x xs h⟩))
    · refine .inr (.inl ?_)
      cases q : H x with
      | none => rfl
      | some o => exact absurd h (a.dom x (by rw [q]; simp))
    · exact .inr (.inr (.inl (a.mus x h)))
    · exact .inr (.inr (.inr h))
  keep := fun x o h n => b.keep x o (a.keep x o h n) fun z => n (a.mus x z)
  dom := fun x h => b.dom x (a.dom x h)
  mus := fun x h => a.mus x (b.mus x h)
  tups := fun x xs h => b.tups x xs (a.tups x xs h)

/-- the heap grows, what is known grows by what is new -/
structure Gr (P H P' H' : Hp) : Prop where
  p : Ex P P'
  h : Ex H H'
  s : Ex P' H'
  new : ∀ a, P' a ≠ none → P a ≠ none ∨ H a = none ∨ ∃ xs, H' a = some (.tup xs)
theorem Gr.refl (e : Ex P H) : Gr P H P H := ⟨Ex.refl P, Ex.refl H, e, fun _ h => .inl h⟩
theorem Gr.trans (a : Gr P H P1 H1) (b : Gr P1 H1 P2 H2) : Gr P H P2 H2 := ⟨a.p.trans b.p, a.h.trans b.h, b.s, fun x h => by
  rcases b.new x h with h | h | h
  · rcases a.new x h with h | h | ⟨xs, h⟩
    · exact .inl h
    · exact .inr (.inl h)
    · exact .inr (.inr ⟨xs, b.h x _ h⟩)
  · refine .inr (.inl ?_)
    cases q : H x with
    | none => rfl
    | some o => rw [a.h x o q] at h; cases h
  · exact .inr (.inr h)⟩
/-- the heap grows, what is known stays -/
theorem Gr.up (e : Ex P H) (h : Ex H H1) : Gr P H P H1 := ⟨Ex.refl P, h, e.trans h, fun _ h => .inl h⟩
/-- a new object becomes known -/
theorem Gr.add (e : Ex P H) {p : Addr} {o : HO} (n : H p = none) : Gr P H (upd P p o) (upd H p o) := by
  have n' : P p = none := fresh_back e n
  refine ⟨Ex.new n', Ex.new n, fun a u h => ?_, fun a h => ?_⟩
  · by_cases z : a = p
    · subst z; rw [upd_same] at h ⊢; exact h
    · rw [upd_ne z] at h ⊢; exact e a u h
  · by_cases z : a = p
    · subst z; exact .inr (.inl n)
    · rw [upd_ne z] at h; exact .inl h
theorem ex_ne {a : Addr} (e : Ex H H1) (h : H a ≠ none) : H1 a ≠ none := by
  cases q : H a with
  | none => exact absurd q h
  | some o => rw [e a o q]; simp
theorem MuAt.there (S : Sat K mg En P σ H γ) {a : Addr} (h : MuAt En.T σ γ a) : P a = none ∧ H a ≠ none := by
  rcases h with ⟨i, d, h1, h2⟩ | h
  · obtain ⟨b, h3, h4, h5, _⟩ := S.mu i d h1
    rw [h3] at h2; cases h2
    obtain ⟨o, ho, _⟩ := h5.there
    exact ⟨h4, by rw [ho]; simp⟩
  · obtain ⟨p, hp, rfl⟩ := List.mem_map.mp h
    obtain ⟨ps, h1, _⟩ := S.tab p hp
    exact ⟨S.tabP p hp, by rw [h1]; simp⟩
/-- growth keeps what a state says -/
theorem Sat.gr (S : Sat K mg En P σ H γ) (g : Gr P H P1 H1) : Sat K mg En P1 σ H1 γ where
  sub := g.s
  len := S.len
  old := S.old.trans g.p
  new := fun a h => by
    rcases g.new a h with h | h | h
    · rcases S.new a h with h | h | ⟨xs, h⟩
      · exact .inl h
      · exact .inr (.inl h)
      · exact .inr (.inr ⟨xs, g.h a _ h⟩)
    · exact .inr (.inl (Classical.byContradiction fun z => S.dom a z h))
    · exact .inr (.inr h)
  keep := fun a o h n => g.h a o (S.keep a o h n)
  dom := fun a h => ex_ne g.h (S.dom a h)
  tab := S.tab.ext g.h
  tabP := fun p hp => by
    cases q : P1 p.1 with
    | none => rfl
    | some o =>
      obtain ⟨ps, h1, _⟩ := S.tab p hp
      rcases g.new p.1 (by rw [q]; simp) with h | h | ⟨xs, h⟩
      · exact absurd (S.tabP p hp) h
      · rw [h1] at h; cases h
      · rw [g.h _ _ h1] at h; cases h
  pu := fun i d h => by
    obtain ⟨v, h1, h2⟩ := S.pu i d h
    exact ⟨v, h1, h2.mono g.p⟩
  mu := fun i d h => by
    obtain ⟨a, h1, h2, h3, h4⟩ := S.mu i d h
    refine ⟨a, h1, ?_, h3.mono g.p fun o q => g.h a o q, h4⟩
    obtain ⟨o, ho, mo⟩ := h3.there
    cases q : P1 a with
    | none => rfl
    | some u =>
      rcases g.new a (by rw [q]; simp) with h | h | ⟨xs, h⟩
      · exact absurd h2 h
      · rw [ho] at h; cases h
      · rw [g.h _ _ ho] at h; cases h; exact mo.elim
  ne := S.ne
/-- tables stand where an object that is none of them changes -/
theorem tabs_upd {T : List (Addr × Str)} {a : Addr} {o u : HO} (t : LamX.Tabs T H) (h : H a = some u) (m : Mut (some u)) (hx : ∀ φ, u ≠ .ext φ) : LamX.Tabs T (upd H a o) := fun p hp => by
  obtain ⟨ps, h1, h2, h3⟩ := t p hp
  have n1 : p.1 ≠ a := fun z => by rw [z, h] at h1; cases h1; exact m
  refine ⟨ps, by rw [upd_ne n1]; exact h1, h2, fun pos cv hc => ?_⟩
  obtain ⟨c, e1, e2⟩ := h3 pos cv hc
  have n2 : c ≠ a := fun z => by rw [z, h] at e2; exact hx _ (Option.some.inj e2)
  exact ⟨c, e1, by rw [upd_ne n2]; exact e2⟩
/-- the object at a is known from now on, as it stays -/
theorem Sat.give (S : Sat K mg En P σ H γ) {p : Addr} {u w : HO} (n : P p = none) (n0 : En.H0 p = none) (hm : ¬ MuAt En.T σ γ p) (hu : H p = some u) (mu : Mut (some u)) (hx : ∀ φ, u ≠ .ext φ) :
    Sat K mg En (upd P p w) σ (upd H p w) γ := by
  have e : Ex P (upd P p w) := Ex.new n
  refine ⟨fun a o h => ?_, S.len, S.old.trans e, fun a h => ?_, fun a o h nm => ?_, fun a h => ?_, tabs_upd S.tab hu mu hx, fun q hq => ?_, fun i d h => ?_, fun i d h => ?_, S.ne⟩
  · by_cases z : a = p
    · subst z; rw [upd_same] at h ⊢; exact h
    · rw [upd_ne z] at h ⊢; exact S.sub a o h
  · by_cases z : a = p
    · subst z; exact .inr (.inl n0)
    · rw [upd_ne z] at h ⊢; exact S.new a h
  · have : a ≠ p := fun z => by rw [z, n0] at h; cases h
    rw [upd_ne this]; exact S.keep a o h nm
  · by_cases z : a = p
    · subst z; rw [upd_same]; simp
    · rw [upd_ne z]; exact S.dom a h
  · have : q.1 ≠ p := fun z => hm (.inr (z ▸ List.mem_map.mpr ⟨q, hq, rfl⟩))
    rw [upd_ne this]; exact S.tabP q hq
  · obtain ⟨v, h1, h2⟩ := S.pu i d h
    exact ⟨v, h1, h2.mono e⟩
  · obtain ⟨a, h1, h2, h3, h4⟩ := S.mu i d h
    have : a ≠ p := fun z => hm (.inl ⟨i, d, h, z ▸ h1⟩)
    exact ⟨a, h1, by rw [upd_ne this]; exact h2, h3.mono e fun o q => by rw [upd_ne this]; exact q, h4⟩
end
end DL
end
section
set_option Elab.async false
set_option linter.all false
set_option maxRecDepth 100000
namespace DL
open PySem L2 Evl

theorem R.ok_bind {α β : Type} (a : α) (f : α → R β) : (R.ok a >>= f) = f a := rfl
theorem R.exc_bind {α β : Type} (c : Str) (f : α → R β) : (R.exc c >>= f) = .exc c := rfl
theorem R.no_bind {α β : Type} (f : α → R β) : ((R.no : R α) >>= f) = .no := rfl
def ofO {α : Type} : Option α → R α
  | some a => .ok a
  | none => .no

/-- what is wanted behind a piece of code; rep tells from the heap ahead of it, what is known behind it, the heap behind it, the slots -/
def PostK {α β : Type} (K : PySem.W.Frag) (mg : Str → Option Value) (W : WX) (En : Ent) (rep : Hp → Hp → Hp → L2.St → α → β → Prop) (σ : L2.St) (P H : Hp) (γ : Ga) (Q : β → Hp → Prop) : R (α × Ga) → Prop
  | .ok (r, γ') => ∀ v H' P', Sat K mg En P' σ H' γ' → Stp En.T σ γ P H γ' P' H' → rep H P' H' σ r v → Q v H'
  | .exc c => ∀ H' cls, (∀ a o, H a = some o → ¬ MuAt En.T σ γ a → H' a = some o) → LamX.Tabs En.T H' → mg c = some cls → W cls none σ H'
  | .no => False
abbrev PostG {α β : Type} (X : Cx) (W : WX) (En : Ent) (rep : Hp → Hp → Hp → L2.St → α → β → Prop) (σ : L2.St) (P H : Hp) (γ : Ga) (Q : β → Hp → Prop) : R (α × Ga) → Prop := PostK X.K X.mg W En rep σ P H γ Q
section
variable {X : Cx} {W : WX} {En : Ent} {α β : Type} {rep : Hp → Hp → Hp → L2.St → α → β → Prop} {σ : L2.St} {P P1 H H1 : Hp} {γ γ1 : Ga} {Q : β → Hp → Prop}
theorem PostG.later (T : Stp En.T σ γ P H γ1 P1 H1) (hr : ∀ P' H' σ a b, rep H1 P' H' σ a b → rep H P' H' σ a b) : ∀ {r : R (α × Ga)}, PostG X W En rep σ P H γ Q r → PostG X W En rep σ P1 H1 γ1 Q r
  | .ok (r, γ'), h => fun v H' P' S T' q => h v H' P' S (T.trans T') (hr _ _ _ _ _ q)
  | .exc c, h => fun H' cls k tb e => h H' cls (fun a o q n => k a o (T.keep a o q n) fun z => n (T.mus a z)) tb e
  | .no, h => h
/-- what is raised is raised whatever is wanted -/
theorem PostG.exc' {α' β' : Type} {rep' : Hp → Hp → Hp → L2.St → α' → β' → Prop} {Q' : β' → Hp → Prop} {c : Str} (h : PostG X W En rep σ P H γ Q (.exc c)) : PostG X W En rep' σ P H γ Q' (.exc c) := h
end

abbrev repE (X : Cx) : Hp → Hp → Hp → L2.St → Res → V → Prop := fun _ P' _ σ r v => ResRep X.K X.mg P' σ r v
abbrev repA (X : Cx) : Hp → Hp → Hp → L2.St → List Res → List V → Prop := fun _ P' _ σ r v => ResReps X.K X.mg P' σ r v
abbrev repT : Hp → Hp → Hp → L2.St → Bool → Bool → Prop := fun _ _ _ _ a b => a = b
/-- a new object of one's own -/
abbrev repF (X : Cx) : Hp → Hp → Hp → L2.St → D → V → Prop := fun H P' H' _ d v => ∃ p, v = .ref p ∧ H p = none ∧ P' p = none ∧ Own X.K X.mg P' H' d p

def Ev (X : Cx) (W : WX) (En : Ent) (e : Expr) (f : Ga → R (Res × Ga)) : Prop :=
  ∃ t, PE X e t ∧ ∀ σ H P γ Q, Sat X.K X.mg En P σ H γ → PostG X W En (repE X) σ P H γ Q (f γ) → t σ H Q
def EvA (X : Cx) (W : WX) (En : Ent) (es : List Expr) (f : Ga → R (List Res × Ga)) : Prop :=
  ∃ t, PA X es t ∧ ∀ σ H P γ Q, Sat X.K X.mg En P σ H γ → PostG X W En (repA X) σ P H γ Q (f γ) → t σ H Q
def EvT (X : Cx) (W : WX) (En : Ent) (e : Expr) (f : Ga → R (Bool × Ga)) : Prop :=
  ∃ t, PT X e t ∧ ∀ σ H P γ Q, Sat X.K X.mg En P σ H γ → PostG X W En repT σ P H γ Q (f γ) → t σ H Q
def EvW (X : Cx) (W : WX) (En : Ent) (e : Expr) (f : Ga → R (Bool × Ga)) : Prop :=
  ∃ t, PW X e t ∧ ∀ σ H P γ Q, Sat X.K X.mg En P σ H γ → PostG X W En repT σ P H γ Q (f γ) → t σ H Q
def EvF (X : Cx) (W : WX) (En : Ent) (e : Expr) (f : Ga → R (D × Ga)) : Prop :=
  ∃ t, PE X e t ∧ ∀ σ H P γ Q, Sat X.K X.mg En P σ H γ → PostG X W En (repF X) σ P H γ Q (f γ) → t σ H Q

section
variable {X : Cx} {W : WX} {En : Ent} {e a b c : Expr} {pos : Pos} {f fa fb fc : Ga → R (Res × Ga)}
/-- what a value's own object becomes that does not change any more -/
def FzV (v : V) (H : Hp) (Q : VK) : Prop := ∃ a u, v = .ref a ∧ H a = some u ∧ ((∃ vs, u = .lst vs) ∨ (∃ kvs, u = .dK kvs) ∨ ∃ kvs, u = .dT kvs) ∧ ∀ o, Q v (upd H a (lockAt o u))
theorem upd_id {H : Hp} {a : Addr} {u : HO} (h : H a = some u) : upd H a u = H := by
  funext b; unfold upd; split
  · rename_i z; rw [z, h]
  · rfl
theorem fz_inv {pins : List (Addr × Obj)} {σ : L2.St} {H : Hp} {s : Shared} {v : V} {Q : VK} (I : Inv X pins σ H s) (h : FzV v H Q) : ∃ H', Inv X pins σ H' s ∧ Q v H' := by
  obtain ⟨a, u, rfl, hu, hk, q⟩ := h
  rcases hk with ⟨vs, rfl⟩ | ⟨kvs, rfl⟩ | ⟨kvs, rfl⟩
  · have := q { cls := .none, data := .fields #[] }
    rw [show lockAt { cls := .none, data := .fields #[] } (.lst vs) = .lst vs from rfl, upd_id hu] at this
    exact ⟨H, I, this⟩
  · obtain ⟨o, J⟩ := I.lock hu trivial
    exact ⟨_, J, q o⟩
  · obtain ⟨o, J⟩ := I.lock hu trivial
    exact ⟨_, J, q o⟩
theorem pe_fz {t : TE} (h : PE X e t) : PE X e (fun σ H Q => t σ H fun v H' => FzV v H' Q) := ⟨fun pins s σ H Q I q =>
  thn (h.run pins s σ H _ I q) fun u s1 ⟨v, H1, I1, r, q1⟩ =>
    let ⟨H2, I2, q2⟩ := fz_inv I1 q1
    ⟨v, H2, I2, r, q2⟩⟩
def toE (f : Ga → R (D × Ga)) : Ga → R (Res × Ga) := fun γ => match f γ with
  | .ok (d, γ') => .ok (.val d, γ')
  | .exc c => .exc c
  | .no => .no
theorem EvF.post {f : Ga → R (D × Ga)} {σ : L2.St} {H P : Hp} {γ : Ga} {Q : VK} (S : Sat X.K X.mg En P σ H γ) (q : PostG X W En (repE X) σ P H γ Q (toE f γ)) : PostG X W En (repF X) σ P H γ (fun v H' => FzV v H' Q) (f γ) := by
  unfold toE at q
  cases e : f γ with
  | no => rw [e] at q; exact q
  | exc c => rw [e] at q; exact q
  | ok r =>
    obtain ⟨d, γ'⟩ := r
    rw [e] at q
    rintro v H' P' S' T' ⟨p, rfl, n, n', o⟩
    have nm : ¬ MuAt En.T σ γ' p := fun z => (T'.mus p z).there S |>.2 n
    have n0 : En.H0 p = none := Classical.byContradiction fun z => S.dom p z n
    obtain ⟨u, hu, mu, hx, hk⟩ := o.obj
    refine ⟨p, u, rfl, hu, hk, fun ob => q (.ref p) _ _ (S'.give n' n0 nm hu mu hx) ⟨T'.ph.trans (Ex.new n'), fun a h => ?_, fun a o' h nm' => ?_, fun a h => ?_, T'.mus, fun a xs h => ?_⟩ (o.give n' hu ob)⟩
    · by_cases z : a = p
      · subst z; exact .inr (.inl n)
      · rw [upd_ne z] at h ⊢; exact T'.new a h
    · have : a ≠ p := fun z => by rw [z, n] at h; cases h
      rw [upd_ne this]; exact T'.keep a o' h nm'
    · by_cases z : a = p
      · rw [z, upd_same]; simp
      · rw [upd_ne z]; exact T'.dom a h
    · have : a ≠ p := fun z => by rw [z, n] at h; cases h
      rw [upd_ne this]; exact T'.tups a xs h
theorem EvF.ev {f : Ga → R (D × Ga)} (h : EvF X W En e f) : Ev X W En e (toE f) :=
  let ⟨_, p, h⟩ := h
  ⟨_, pe_fz p, fun σ H P γ _ S q => h σ H P γ _ S (EvF.post S q)⟩

/-! ### names, constants -/
def eVar (i : Nat) : Ga → R (Res × Ga) := fun γ => match γ[i]? with
  | some (.pu d) => .ok (.val d, γ)
  | some (.mu _) => .ok (.cell i, γ)
  | _ => .no
theorem ev_var {i : Nat} {x : Str} (hp : PE X (.Name x pos) (tVar i)) : Ev X W En (.Name x pos) (eVar i) := by
  refine ⟨_, hp, fun σ H P γ Q S q => ?_⟩
  unfold eVar at q
  cases g : γ[i]? with
  | none => simp [g, PostK] at q
  | some s =>
    cases s with
    | un => simp [g, PostK] at q
    | pu d =>
      simp only [g] at q
      obtain ⟨v, h1, h2⟩ := S.pu i d g
      exact ⟨v, h1, q v H P S .refl h2⟩
    | mu d =>
      simp only [g] at q
      obtain ⟨a, h1, h2, h3, _⟩ := S.mu i d g
      exact ⟨_, h1, q _ H P S .refl h1⟩
def eC (d : D) : Ga → R (Res × Ga) := fun γ => .ok (.val d, γ)
theorem ev_c {v : V} {d : D} (hp : PE X e (tC v)) (r : ∀ P, Rep X.K X.mg P d v) : Ev X W En e (eC d) :=
  ⟨_, hp, fun σ H P γ Q S q => q v H P S .refl (r P)⟩
theorem ev_int {i j} : Ev X W En (.Constant (.int i) j pos) (eC (.int i)) := ev_c pe_int fun _ => .int i
theorem ev_bl {i j} : Ev X W En (.Constant (.bool i) j pos) (eC (.bl i)) := ev_c pe_bl fun _ => .bl i
theorem ev_non {j} : Ev X W En (.Constant .none j pos) (eC .non) := ev_c pe_non fun _ => .non
theorem ev_str {x : Str} {j} (h : x.cps.toList.length ≤ sizeLine := by decide +kernel) : Ev X W En (.Constant (.str x) j pos) (eC (.str x.cps.toList)) := ev_c pe_str fun _ => .str x.cps.toList h
/-- a def, a class of the module as a value -/
theorem ev_fn {x : Str} {a : Addr} (hg : Gl X x) (hm : X.mg x = some (.ref a)) (hd : (x == ("__debug__" : Str)) = false := by decide) : Ev X W En (.Name x pos) (eC (.fn x)) :=
  ev_c (pe_glob (v := .ref a) hg hm rfl hd) fun _ => .fn hm
/-- a module's constant: an int, a text -/
theorem ev_gint {x : Str} {i : Int} (hg : Gl X x) (hm : ∃ t, X.mg x = some (.int i t)) (hd : (x == ("__debug__" : Str)) = false := by decide) : Ev X W En (.Name x pos) (eC (.int i)) := by
  obtain ⟨t, hm⟩ := hm
  exact ev_c (pe_glob (v := .int i) hg hm ⟨t, rfl⟩ hd) fun _ => .int i
theorem ev_gstr {x : Str} {s : List Nat} (hg : Gl X x) (hm : ∃ t, X.mg x = some (.str (strV s) t)) (hl : s.length ≤ sizeLine) (hd : (x == ("__debug__" : Str)) = false := by decide) : Ev X W En (.Name x pos) (eC (.str s)) := by
  obtain ⟨t, hm⟩ := hm
  exact ev_c (pe_glob (v := .str (strV s)) hg hm ⟨t, rfl⟩ hd) fun _ => .str s hl

/-! ### operations on values -/
/-- an operation on two values, its answer known for good -/
def OpS (X : Cx) (r : R2) (f : D → D → Option D) : Prop := ∀ P H x y a b d Q, Ex P H → RepW X.K X.mg P H a x → RepW X.K X.mg P H b y → f a b = some d →
  (∀ v H' P', Gr P H P' H' → Rep X.K X.mg P' d v → Q v H') → r x y H Q
/-- .., its answer a new object -/
def OpF (X : Cx) (r : R2) (f : D → D → Option D) : Prop := ∀ P H x y a b d Q, Ex P H → RepW X.K X.mg P H a x → RepW X.K X.mg P H b y → f a b = some d →
  (∀ p H', H p = none → Ex H H' → Own X.K X.mg P H' d p → Q (.ref p) H') → r x y H Q
def UnS (X : Cx) (r : V → Hp → VK → Prop) (f : D → Option D) : Prop := ∀ P H x a d Q, Ex P H → RepW X.K X.mg P H a x → f a = some d →
  (∀ v H' P', Gr P H P' H' → Rep X.K X.mg P' d v → Q v H') → r x H Q
def UnF (X : Cx) (r : V → Hp → VK → Prop) (f : D → Option D) : Prop := ∀ P H x a d Q, Ex P H → RepW X.K X.mg P H a x → f a = some d →
  (∀ p H', H p = none → Ex H H' → Own X.K X.mg P H' d p → Q (.ref p) H') → r x H Q
inductive RepWs (K : PySem.W.Frag) (mg : Str → Option Value) (P H : Hp) : List D → List V → Prop
  | nil : RepWs K mg P H [] []
  | cons {d : D} {ds : List D} {v : V} {vs : List V} : RepW K mg P H d v → RepWs K mg P H ds vs → RepWs K mg P H (d :: ds) (v :: vs)
def CallS (X : Cx) (r : List V → Hp → VK → Prop) (f : List D → Option D) : Prop := ∀ P H xs as d Q, Ex P H → RepWs X.K X.mg P H as xs → f as = some d →
  (∀ v H' P', Gr P H P' H' → Rep X.K X.mg P' d v → Q v H') → r xs H Q
def CallF (X : Cx) (r : List V → Hp → VK → Prop) (f : List D → Option D) : Prop := ∀ P H xs as d Q, Ex P H → RepWs X.K X.mg P H as xs → f as = some d →
  (∀ p H', H p = none → Ex H H' → Own X.K X.mg P H' d p → Q (.ref p) H') → r xs H Q

/-- growth, as a step -/
theorem Gr.stp {T : List (Addr × Str)} {σ : L2.St} {γ : Ga} {P H P1 H1 : Hp} (g : Gr P H P1 H1) : Stp T σ γ P H γ P1 H1 :=
  ⟨g.p, fun a h => (g.new a h).elim .inl fun z => z.elim (fun z => .inr (.inl z)) fun z => .inr (.inr (.inr z)), fun a o h _ => g.h a o h, fun _ h => ex_ne g.h h, fun _ h => h, fun a _ h => g.h a _ h⟩
/-- a new object, as a growth that knows nothing of it -/
theorem gr_new {P H H' : Hp} (e : Ex P H) (h : Ex H H') : Gr P H P H' := Gr.up e h
theorem new_not_known {P H : Hp} {p : Addr} (e : Ex P H) (n : H p = none) : P p = none := fresh_back e n

def eOp2 (f : D → D → Option D) (fa fb : Ga → R (Res × Ga)) : Ga → R (Res × Ga) := fun γ => fa γ >>= fun p => fb p.2 >>= fun q => deref q.2 p.1 >>= fun a => deref q.2 q.1 >>= fun b => ofO (f a b) >>= fun d => .ok (.val d, q.2)
def fOp2 (f : D → D → Option D) (fa fb : Ga → R (Res × Ga)) : Ga → R (D × Ga) := fun γ => fa γ >>= fun p => fb p.2 >>= fun q => deref q.2 p.1 >>= fun a => deref q.2 q.1 >>= fun b => ofO (f a b) >>= fun d => .ok (d, q.2)
def eOp1 (f : D → Option D) (fa : Ga → R (Res × Ga)) : Ga → R (Res × Ga) := fun γ => fa γ >>= fun p => deref p.2 p.1 >>= fun a => ofO (f a) >>= fun d => .ok (.val d, p.2)
def fOp1 (f : D → Option D) (fa : Ga → R (Res × Ga)) : Ga → R (D × Ga) := fun γ => fa γ >>= fun p => deref p.2 p.1 >>= fun a => ofO (f a) >>= fun d => .ok (d, p.2)
theorem deref_cases (γ : Ga) (r : Res) : (∃ d, deref γ r = .ok d) ∨ deref γ r = .no := by
  cases r with
  | val d => exact .inl ⟨d, rfl⟩
  | cell i =>
    unfold deref
    cases h : γ[i]? with
    | none => right; simp [h]
    | some s => cases s <;> simp [h]
theorem ofO_cases {α : Type} (o : Option α) : (∃ d, o = some d ∧ ofO o = .ok d) ∨ ofO o = .no := by
  cases o with
  | none => exact .inr rfl
  | some d => exact .inl ⟨d, rfl, rfl⟩
/-- two expressions, one after the other -/
theorem two_go {α β : Type} {rep : Hp → Hp → Hp → L2.St → α → β → Prop} {ta tb : TE} (ha : ∀ σ H P γ Q, Sat X.K X.mg En P σ H γ → PostG X W En (repE X) σ P H γ Q (fa γ) → ta σ H Q)
    (hb : ∀ σ H P γ Q, Sat X.K X.mg En P σ H γ → PostG X W En (repE X) σ P H γ Q (fb γ) → tb σ H Q) (hrep : ∀ H H1 P' H' σ a b, (∀ x, H x ≠ none → H1 x ≠ none) → rep H1 P' H' σ a b → rep H P' H' σ a b)
    {σ : L2.St} {H P : Hp} {γ : Ga} {Q : β → Hp → Prop} {k : D → D → Ga → R (α × Ga)} {R' : V → V → Hp → Prop} (S : Sat X.K X.mg En P σ H γ)
    (q : PostG X W En rep σ P H γ Q (fa γ >>= fun p => fb p.2 >>= fun q => deref q.2 p.1 >>= fun a => deref q.2 q.1 >>= fun b => k a b q.2))
    (hk : ∀ P2 H2 γ2 a b x y, Sat X.K X.mg En P2 σ H2 γ2 → RepW X.K X.mg P2 H2 a x → RepW X.K X.mg P2 H2 b y → PostG X W En rep σ P2 H2 γ2 Q (k a b γ2) → R' x y H2) :
    ta σ H fun x H1 => tb σ H1 fun y H2 => R' x y H2 := by
  refine ha σ H P γ _ S ?_
  cases ea : fa γ with
  | no => rw [ea] at q; exact q
  | exc c => rw [ea] at q; exact q
  | ok p =>
    obtain ⟨ra, γ1⟩ := p
    rw [ea] at q
    intro x H1 P1 S1 T1 r1
    refine hb σ H1 P1 γ1 _ S1 ?_
    have q1 := PostG.later T1 (fun P' H' σ a b => hrep _ _ P' H' σ a b T1.dom) q
    change PostG X W En rep σ P1 H1 γ1 Q (fb γ1 >>= fun q => deref q.2 ra >>= fun a => deref q.2 q.1 >>= fun b => k a b q.2) at q1
    cases eb : fb γ1 with
    | no => rw [eb] at q1; exact q1
    | exc c => rw [eb] at q1; exact q1
    | ok p2 =>
      obtain ⟨rb, γ2⟩ := p2
      rw [eb] at q1
      intro y H2 P2 S2 T2 r2
      have q2 := PostG.later T2 (fun P' H' σ a b => hrep _ _ P' H' σ a b T2.dom) q1
      change PostG X W En rep σ P2 H2 γ2 Q (deref γ2 ra >>= fun a => deref γ2 rb >>= fun b => k a b γ2) at q2
      rcases deref_cases γ2 ra with ⟨da, e1⟩ | e1
      · rcases deref_cases γ2 rb with ⟨db, e2⟩ | e2
        · rw [e1, R.ok_bind, e2, R.ok_bind] at q2
          exact hk P2 H2 γ2 da db x y S2 (S2.w (r1.mono T2.ph) e1) (S2.w r2 e2) q2
        · rw [e1, R.ok_bind, e2] at q2; exact q2.elim
      · rw [e1] at q2; exact q2.elim
theorem one_go {α β : Type} {rep : Hp → Hp → Hp → L2.St → α → β → Prop} {ta : TE} (ha : ∀ σ H P γ Q, Sat X.K X.mg En P σ H γ → PostG X W En (repE X) σ P H γ Q (fa γ) → ta σ H Q)
    (hrep : ∀ H H1 P' H' σ a b, (∀ x, H x ≠ none → H1 x ≠ none) → rep H1 P' H' σ a b → rep H P' H' σ a b)
    {σ : L2.St} {H P : Hp} {γ : Ga} {Q : β → Hp → Prop} {k : D → Ga → R (α × Ga)} {R' : V → Hp → Prop} (S : Sat X.K X.mg En P σ H γ)
    (q : PostG X W En rep σ P H γ Q (fa γ >>= fun p => deref p.2 p.1 >>= fun a => k a p.2))
    (hk : ∀ P2 H2 γ2 a x, Sat X.K X.mg En P2 σ H2 γ2 → RepW X.K X.mg P2 H2 a x → PostG X W En rep σ P2 H2 γ2 Q (k a γ2) → R' x H2) :
    ta σ H fun x H1 => R' x H1 := by
  refine ha σ H P γ _ S ?_
  cases ea : fa γ with
  | no => rw [ea] at q; exact q
  | exc c => rw [ea] at q; exact q
  | ok p =>
    obtain ⟨ra, γ1⟩ := p
    rw [ea] at q
    intro x H1 P1 S1 T1 r1
    have q1 := PostG.later T1 (fun P' H' σ a b => hrep _ _ P' H' σ a b T1.dom) q
    change PostG X W En rep σ P1 H1 γ1 Q (deref γ1 ra >>= fun a => k a γ1) at q1
    rcases deref_cases γ1 ra with ⟨da, e1⟩ | e1
    · rw [e1, R.ok_bind] at q1
      exact hk P1 H1 γ1 da x S1 (S1.w r1 e1) q1
    · rw [e1] at q1; exact q1.elim
theorem hrepE : ∀ (H H1 P' H' : Hp) (σ : L2.St) (a : Res) (b : V), (∀ x, H x ≠ none → H1 x ≠ none) → repE X H1 P' H' σ a b → repE X H P' H' σ a b := fun _ _ _ _ _ _ _ _ h => h
theorem hrepT : ∀ (H H1 P' H' : Hp) (σ : L2.St) (a : Bool) (b : Bool), (∀ x, H x ≠ none → H1 x ≠ none) → repT H1 P' H' σ a b → repT H P' H' σ a b := fun _ _ _ _ _ _ _ _ h => h
theorem hrepF : ∀ (H H1 P' H' : Hp) (σ : L2.St) (a : D) (b : V), (∀ x, H x ≠ none → H1 x ≠ none) → repF X H1 P' H' σ a b → repF X H P' H' σ a b := fun H H1 _ _ _ _ _ d ⟨p, e, n, r⟩ =>
  ⟨p, e, Classical.byContradiction fun z => d p z n, r⟩
/-- an answer known for good -/
theorem PostG.val {σ : L2.St} {P H : Hp} {γ : Ga} {Q : VK} {d : D} {v : V} {P' H' : Hp} (S : Sat X.K X.mg En P σ H γ) (q : PostG X W En (repE X) σ P H γ Q (.ok (.val d, γ))) (g : Gr P H P' H') (r : Rep X.K X.mg P' d v) : Q v H' :=
  q v H' P' (S.gr g) g.stp r
theorem PostG.new {σ : L2.St} {P H : Hp} {γ : Ga} {Q : VK} {d : D} {p : Addr} {H' : Hp} (S : Sat X.K X.mg En P σ H γ) (q : PostG X W En (repF X) σ P H γ Q (.ok (d, γ))) (n : H p = none) (e : Ex H H') (o : Own X.K X.mg P H' d p) : Q (.ref p) H' :=
  q _ H' P (S.gr (Gr.up S.sub e)) (Gr.up S.sub e).stp ⟨p, rfl, n, new_not_known S.sub n, o⟩
theorem ev_op {op : Operator} {r : R2} {f : D → D → Option D} (ho : OpR X (binaryOp op) r) (hs : OpS X r f) (ha : Ev X W En a fa) (hb : Ev X W En b fb) : Ev X W En (.BinOp a op b pos) (eOp2 f fa fb) := by
  obtain ⟨ta, pa, ha⟩ := ha
  obtain ⟨tb, pb, hb⟩ := hb
  refine ⟨_, pe_op ho pa pb, fun σ H P γ Q S q => two_go (rep := repE X) (k := fun a b γ2 => ofO (f a b) >>= fun d => .ok (.val d, γ2)) ha hb hrepE S q fun P2 H2 γ2 a b x y S2 r1 r2 q2 => ?_⟩
  rcases ofO_cases (f a b) with ⟨d, e, e'⟩ | e
  · rw [e', R.ok_bind] at q2
    exact hs P2 H2 x y a b d Q S2.sub r1 r2 e fun v H' P' g r => q2.val S2 g r
  · rw [e] at q2; exact q2.elim
theorem ev_opF {op : Operator} {r : R2} {f : D → D → Option D} (ho : OpR X (binaryOp op) r) (hs : OpF X r f) (ha : Ev X W En a fa) (hb : Ev X W En b fb) : EvF X W En (.BinOp a op b pos) (fOp2 f fa fb) := by
  obtain ⟨ta, pa, ha⟩ := ha
  obtain ⟨tb, pb, hb⟩ := hb
  refine ⟨_, pe_op ho pa pb, fun σ H P γ Q S q => two_go (rep := repF X) (k := fun a b γ2 => ofO (f a b) >>= fun d => .ok (d, γ2)) ha hb hrepF S q fun P2 H2 γ2 a b x y S2 r1 r2 q2 => ?_⟩
  rcases ofO_cases (f a b) with ⟨d, e, e'⟩ | e
  · rw [e', R.ok_bind] at q2
    exact hs P2 H2 x y a b d Q S2.sub r1 r2 e fun p H' n ex o => q2.new S2 n ex o
  · rw [e] at q2; exact q2.elim
theorem ev_un {op : UnaryOp} {r : V → Hp → VK → Prop} {f : D → Option D} (ho : UnR X (unaryOp op) r) (hs : UnS X r f) (ha : Ev X W En a fa) : Ev X W En (.UnaryOp op a pos) (eOp1 f fa) := by
  obtain ⟨ta, pa, ha⟩ := ha
  refine ⟨_, pe_un ho pa, fun σ H P γ Q S q => one_go (rep := repE X) (k := fun a γ2 => ofO (f a) >>= fun d => .ok (.val d, γ2)) ha hrepE S q fun P2 H2 γ2 a x S2 r1 q2 => ?_⟩
  rcases ofO_cases (f a) with ⟨d, e, e'⟩ | e
  · rw [e', R.ok_bind] at q2
    exact hs P2 H2 x a d Q S2.sub r1 e fun v H' P' g r => q2.val S2 g r
  · rw [e] at q2; exact q2.elim
theorem ev_cmp {op : CmpOp} {r : R2} {f : D → D → Option D} (ho : OpR X (compareOp op) r) (hs : OpS X r f) (ha : Ev X W En a fa) (hb : Ev X W En b fb) (hm : behindInMarks op b = false) : Ev X W En (.Compare a [op] [b] pos) (eOp2 f fa fb) := by
  obtain ⟨ta, pa, ha⟩ := ha
  obtain ⟨tb, pb, hb⟩ := hb
  refine ⟨_, pe_cmpR ho pa pb hm, fun σ H P γ Q S q => two_go (rep := repE X) (k := fun a b γ2 => ofO (f a b) >>= fun d => .ok (.val d, γ2)) ha hb hrepE S q fun P2 H2 γ2 a b x y S2 r1 r2 q2 => ?_⟩
  rcases ofO_cases (f a b) with ⟨d, e, e'⟩ | e
  · rw [e', R.ok_bind] at q2
    exact hs P2 H2 x y a b d Q S2.sub r1 r2 e fun v H' P' g r => q2.val S2 g r
  · rw [e] at q2; exact q2.elim
end
end DL
end
section
set_option Elab.async false
set_option linter.all false
set_option maxRecDepth 100000
namespace DL
open PySem L2 Evl

/-! ### == of trees -/
mutual
def D.eqb : D → D → Bool
  | .non, .non => true
  | .bl a, .bl b => a == b
  | .bl a, .int j => (if a then 1 else 0) == j
  | .int i, .bl b => i == (if b then 1 else 0)
  | .int i, .int j => i == j
  | .str x, .str y => x == y
  | .lst xs, .lst ys => D.eqbs xs ys
  | .tup xs, .tup ys => D.eqbs xs ys
  | _, _ => false
def D.eqbs : List D → List D → Bool
  | [], [] => true
  | x :: xs, y :: ys => D.eqb x y && D.eqbs xs ys
  | _, _ => false
end
mutual
/-- no dict, no def within, not deeper than n -/
def D.plain : Nat → D → Bool
  | _, .non => true
  | _, .bl _ => true
  | _, .int _ => true
  | _, .str _ => true
  | 0, .lst _ => false
  | n + 1, .lst xs => D.plains n xs
  | 0, .tup _ => false
  | n + 1, .tup xs => D.plains n xs
  | _, _ => false
def D.plains : Nat → List D → Bool
  | _, [] => true
  | n, x :: xs => D.plain n x && D.plains n xs
end
mutual
def D.py : D → PyData
  | .non => .none
  | .bl b => .bool b
  | .int i => .int i
  | .str s => .str (strV s)
  | .lst xs => .list (D.pys xs)
  | .tup xs => .tuple (D.pys xs)
  | _ => .dict []
def D.pys : List D → List PyData
  | [] => []
  | x :: xs => D.py x :: D.pys xs
end
mutual
theorem D.py_plain : ∀ (n : Nat) (d : D), D.plain n d = true → (D.py d).plain = true ∧ (D.py d).depth ≤ n
  | n, .non, _ => ⟨rfl, Nat.zero_le _⟩
  | n, .bl _, _ => ⟨rfl, Nat.zero_le _⟩
  | n, .int _, _ => ⟨rfl, Nat.zero_le _⟩
  | n, .str _, _ => ⟨rfl, Nat.zero_le _⟩
  | 0, .lst _, h => by simp [D.plain] at h
  | n + 1, .lst xs, h => by
    have := D.pys_plain n xs (by simpa [D.plain] using h)
    simp only [D.py, PyData.plain, PyData.depth]
    exact ⟨this.1, by omega⟩
  | 0, .tup _, h => by simp [D.plain] at h
  | n + 1, .tup xs, h => by
    have := D.pys_plain n xs (by simpa [D.plain] using h)
    simp only [D.py, PyData.plain, PyData.depth]
    exact ⟨this.1, by omega⟩
  | n, .dct _ _ _, h => by simp [D.plain] at h
  | n, .fn _, h => by simp [D.plain] at h
  | n, .scr _, h => by simp [D.plain] at h
theorem D.pys_plain : ∀ (n : Nat) (d : List D), D.plains n d = true → PyData.plainAll (D.pys d) = true ∧ PyData.depthAll (D.pys d) ≤ n
  | n, [], _ => ⟨rfl, Nat.zero_le _⟩
  | n, x :: xs, h => by
    simp only [D.plains, Bool.and_eq_true] at h
    have h1 := D.py_plain n x h.1
    have h2 := D.pys_plain n xs h.2
    simp only [D.pys, PyData.plainAll, PyData.depthAll, Bool.and_eq_true]
    exact ⟨⟨h1.1, h2.1⟩, by omega⟩
end
theorem strV_beq (a b : List Nat) : (strV a == strV b) = (a == b) := by
  by_cases h : a = b
  · subst h; simp
  · have : strV a ≠ strV b := fun e => h (strV_inj e)
    rw [beq_eq_false_iff_ne.mpr h, beq_eq_false_iff_ne.mpr this]
mutual
theorem D.py_eqb : ∀ (n m : Nat) (a b : D), D.plain n a = true → D.plain m b = true → PyData.eqv (D.py a) (D.py b) = D.eqb a b
  | n, m, .non, b, h, h' => by cases b <;> simp_all [D.py, PyData.eqv, D.eqb, D.plain]
  | n, m, .bl _, b, h, h' => by cases b <;> simp_all [D.py, PyData.eqv, D.eqb, D.plain]
  | n, m, .int _, b, h, h' => by cases b <;> simp_all [D.py, PyData.eqv, D.eqb, D.plain]
  | n, m, .str s, b, h, h' => by
    cases b <;> simp_all [D.py, PyData.eqv, D.eqb, D.plain, strV_beq]
  | 0, m, .lst xs, b, h, h' => by simp [D.plain] at h
  | n + 1, m, .lst xs, b, h, h' => by
    cases b with
    | lst ys =>
      cases m with
      | zero => simp [D.plain] at h'
      | succ m =>
        simp only [D.py, PyData.eqv, D.eqb]
        exact D.pys_eqbs n m xs ys (by simpa [D.plain] using h) (by simpa [D.plain] using h')
    | _ => simp_all [D.py, PyData.eqv, D.eqb, D.plain]
  | 0, m, .tup xs, b, h, h' => by simp [D.plain] at h
  | n + 1, m, .tup xs, b, h, h' => by
    cases b with
    | tup ys =>
      cases m with
      | zero => simp [D.plain] at h'
      | succ m =>
        simp only [D.py, PyData.eqv, D.eqb]
        exact D.pys_eqbs n m xs ys (by simpa [D.plain] using h) (by simpa [D.plain] using h')
    | _ => simp_all [D.py, PyData.eqv, D.eqb, D.plain]
  | n, _, .dct _ _ _, _, h, _ => by simp [D.plain] at h
  | n, _, .fn _, _, h, _ => by simp [D.plain] at h
  | n, _, .scr _, _, h, _ => by simp [D.plain] at h
theorem D.pys_eqbs : ∀ (n m : Nat) (a b : List D), D.plains n a = true → D.plains m b = true → PyData.eqvAll (D.pys a) (D.pys b) = D.eqbs a b
  | n, m, [], [], _, _ => rfl
  | n, m, [], _ :: _, _, _ => rfl
  | n, m, _ :: _, [], _, _ => rfl
  | n, m, x :: xs, y :: ys, h, h' => by
    simp only [D.plains, Bool.and_eq_true] at h h'
    simp only [D.pys, PyData.eqvAll, D.eqbs]
    rw [D.py_eqb n m x y h.1 h'.1, D.pys_eqbs n m xs ys h.2 h'.2]
end

section
variable {X : Cx} {pins : List (Addr × Obj)} {σ : L2.St} {P H : Hp} {s : Shared}
mutual
theorem Rep.reads (I : Inv X pins σ H s) (e : Ex P H) : ∀ (n : Nat) (d : D) (v : V) (u : Value), D.plain n d = true → Rep X.K X.mg P d v → RelV v u → ∃ as, Reads s.heap u (D.py d) as
  | n, .non, _, _, _, h, r => by cases h; cases r; exact ⟨_, Reads.none⟩
  | n, .bl b, _, _, _, h, r => by cases h; cases r; exact ⟨_, Reads.bool b⟩
  | n, .int i, _, _, _, h, r => by cases h; obtain ⟨t, rfl⟩ := r; exact ⟨_, Reads.int i t⟩
  | n, .str x, _, _, _, h, r => by cases h; obtain ⟨t, rfl⟩ := r; exact ⟨_, Reads.str _ t⟩
  | 0, .lst ds, _, _, hp, _, _ => by simp [D.plain] at hp
  | n + 1, .lst ds, _, _, hp, h, r => by
    cases h with
    | lst hs ha =>
      cases r
      obtain ⟨its, rv, ⟨o, n', ho, hc, _, hd⟩, _⟩ := I.list (.inl (.inl (e _ _ hs)))
      obtain ⟨as, hr⟩ := RepL.reads I e n ds _ its (by simpa [D.plain] using hp) ha rv
      exact ⟨_, Reads.list ho hc hd hr⟩
  | 0, .tup ds, _, _, hp, _, _ => by simp [D.plain] at hp
  | n + 1, .tup ds, _, _, hp, h, r => by
    cases h with
    | tup hs ha =>
      cases r
      obtain ⟨its, rv, ⟨o, ho, hc, n', hd⟩, _⟩ := I.tuple (.inl (.inl (e _ _ hs)))
      obtain ⟨as, hr⟩ := RepL.reads I e n ds _ its (by simpa [D.plain] using hp) ha rv
      exact ⟨_, Reads.tuple ho hc hd hr⟩
  | n, .dct _ _ _, _, _, hp, _, _ => by simp [D.plain] at hp
  | n, .fn _, _, _, hp, _, _ => by simp [D.plain] at hp
  | n, .scr _, _, _, hp, _, _ => by simp [D.plain] at hp
theorem RepL.reads (I : Inv X pins σ H s) (e : Ex P H) : ∀ (n : Nat) (ds : List D) (vs : List V) (us : List Value), D.plains n ds = true → RepL X.K X.mg P ds vs → Vals vs us → ∃ as, ReadsAll s.heap us (D.pys ds) as
  | n, [], _, _, _, h, r => by cases h; cases r; exact ⟨_, ReadsAll.nil⟩
  | n, d :: ds, _, _, hp, h, r => by
    simp only [D.plains, Bool.and_eq_true] at hp
    cases h with
    | cons h1 h2 =>
      cases r with
      | cons r1 r2 =>
        obtain ⟨as, q1⟩ := Rep.reads I e n d _ _ hp.1 h1 r1
        obtain ⟨bs, q2⟩ := RepL.reads I e n ds _ _ hp.2 h2 r2
        exact ⟨_, ReadsAll.cons q1 q2⟩
end
theorem RepW.reads (I : Inv X pins σ H s) (e : Ex P H) {n : Nat} {d : D} {v : V} {u : Value} (hp : D.plain n d = true) (h : RepW X.K X.mg P H d v) (r : RelV v u) : ∃ as, Reads s.heap u (D.py d) as := by
  cases h with
  | non => exact Rep.reads I e n _ _ _ hp .non r
  | bl b => exact Rep.reads I e n _ _ _ hp (.bl b) r
  | int i => exact Rep.reads I e n _ _ _ hp (.int i) r
  | str s h => exact Rep.reads I e n _ _ _ hp (.str s h) r
  | lst hs ha =>
    cases r
    cases n with
    | zero => simp [D.plain] at hp
    | succ n =>
      obtain ⟨its, rv, ⟨o, n', ho, hc, _, hd⟩, _⟩ := I.list (.inl (.inl hs))
      obtain ⟨as, hr⟩ := RepL.reads I e n _ _ its (by simpa [D.plain] using hp) ha rv
      exact ⟨_, Reads.list ho hc hd hr⟩
  | tup hs ha =>
    cases r
    cases n with
    | zero => simp [D.plain] at hp
    | succ n =>
      obtain ⟨its, rv, ⟨o, ho, hc, n', hd⟩, _⟩ := I.tuple (.inl (.inl (e _ _ hs)))
      obtain ⟨as, hr⟩ := RepL.reads I e n _ _ its (by simpa [D.plain] using hp) ha rv
      exact ⟨_, Reads.tuple ho hc hd hr⟩
  | _ => simp [D.plain] at hp
end

/-! ### the operations on trees -/
/-- how deep two trees may be that are compared -/
abbrev deepest : Nat := 30
def dEq (a b : D) : Option D := if D.plain deepest a && D.plain deepest b then some (.bl (D.eqb a b)) else none
def dNe (a b : D) : Option D := if D.plain deepest a && D.plain deepest b then some (.bl (!D.eqb a b)) else none
/-- a text within another one -/
def isIn : List Nat → List Nat → Bool
  | t, [] => t.isEmpty
  | t, x :: xs => t.isPrefixOf (x :: xs) || isIn t xs
def dInB (a b : D) : Option Bool := match b with
  | .str y => match a with
    | .str x => some (isIn x y)
    | _ => none
  | .lst ys => if D.plain deepest a && D.plains deepest ys then some (ys.any fun y => D.eqb y a) else none
  | .tup ys => if D.plain deepest a && D.plains deepest ys then some (ys.any fun y => D.eqb y a) else none
  | _ => none
def dIn (a b : D) : Option D := (dInB a b).map .bl
def dNotIn (a b : D) : Option D := (dInB a b).map fun x => .bl (!x)
def dLt (a b : D) : Option D := match a, b with
  | .int i, .int j => some (.bl (decide (i < j)))
  | .str x, .str y => some (.bl (decide (x < y)))
  | _, _ => none
def dLe (a b : D) : Option D := match a, b with
  | .int i, .int j => some (.bl (decide (i ≤ j)))
  | .str x, .str y => some (.bl (!decide (y < x)))
  | _, _ => none
def dGt (a b : D) : Option D := dLt b a
def dGe (a b : D) : Option D := dLe b a
def D.isNon : D → Bool
  | .non => true
  | _ => false
def dIs (a b : D) : Option D := match b with
  | .non => some (.bl a.isNon)
  | .bl y => match a with
    | .bl x => some (.bl (x == y))
    | _ => none
  | _ => none
def dIsNot (a b : D) : Option D := match b with
  | .non => some (.bl (!a.isNon))
  | .bl y => match a with
    | .bl x => some (.bl (x != y))
    | _ => none
  | _ => none
def dAdd (a b : D) : Option D := match a, b with
  | .int i, .int j => some (.int (i + j))
  | .str x, .str y => if x.length + y.length ≤ sizeLine then some (.str (x ++ y)) else none
  | .lst x, .lst y => if x.length + y.length ≤ sizeLine then some (.lst (x ++ y)) else none
  | .tup x, .tup y => if x.length + y.length ≤ sizeLine then some (.tup (x ++ y)) else none
  | _, _ => none
def dAddL (a b : D) : Option D := match a, b with
  | .lst x, .lst y => if x.length + y.length ≤ sizeLine then some (.lst (x ++ y)) else none
  | _, _ => none
def dSub (a b : D) : Option D := match a, b with
  | .int i, .int j => some (.int (i - j))
  | _, _ => none
def dMul (a b : D) : Option D := match a, b with
  | .int i, .int j => if ((-(2 ^ 64) < i ∧ i < 2 ^ 64) ∨ (-(2 ^ 64) < j ∧ j < 2 ^ 64)) then some (.int (i * j)) else none
  | .str x, .int k => if k ≤ 1000000 ∧ -1000000 ≤ k ∧ x.length * k.toNat ≤ 1000000 then some (.str (List.replicate k.toNat x).flatten) else none
  | .lst x, .int k => if k ≤ 1000000 ∧ -1000000 ≤ k ∧ x.length * k.toNat ≤ 1000000 then some (.lst (List.replicate k.toNat x).flatten) else none
  | _, _ => none
def dFdiv (a b : D) : Option D := match a, b with
  | .int i, .int j => if 0 < j ∧ j < 1073741824 then some (.int (i / j)) else none
  | _, _ => none
def dMod (a b : D) : Option D := match a, b with
  | .int i, .int j => if 0 < j then some (.int (i % j)) else none
  | _, _ => none
def dShr (a b : D) : Option D := match a, b with
  | .int i, .int j => if 0 ≤ j then some (.int (i / 2 ^ j.toNat)) else none
  | _, _ => none
def dShl (a b : D) : Option D := match a, b with
  | .int i, .int j => if 0 ≤ j ∧ j ≤ 1000000 ∧ i.natAbs < 2 ^ 64 then some (.int (i * 2 ^ j.toNat)) else none
  | _, _ => none
def dPow (a b : D) : Option D := match a, b with
  | .int i, .int j => if 0 ≤ j ∧ (Builtin.Int.intBits i : Int) * j ≤ 2 ^ 27 then some (.int (i ^ j.toNat)) else none
  | _, _ => none
def dNeg (a : D) : Option D := match a with
  | .int i => some (.int (-i))
  | _ => none
def dNot (a : D) : Option D := match a with
  | .bl b => some (.bl (!b))
  | _ => none

section
variable {X : Cx}
theorem Gr.here {P H : Hp} (e : Ex P H) : Gr P H P H := Gr.refl e
theorem rep_bl {K : PySem.W.Frag} {mg : Str → Option Value} {P : Hp} {b : Bool} : Rep K mg P (.bl b) (.bl b) := .bl b
def rEqP (X : Cx) : R2 := fun x y H Q => ∃ P a b, Ex P H ∧ RepW X.K X.mg P H a x ∧ RepW X.K X.mg P H b y ∧ D.plain deepest a = true ∧ D.plain deepest b = true ∧ Q (.bl (D.eqb a b)) H
def rNeP (X : Cx) : R2 := fun x y H Q => ∃ P a b, Ex P H ∧ RepW X.K X.mg P H a x ∧ RepW X.K X.mg P H b y ∧ D.plain deepest a = true ∧ D.plain deepest b = true ∧ Q (.bl (!D.eqb a b)) H
theorem op_eqP (hu : X.A.units + 64 < cLine) : OpR X (compareOp .Eq) (rEqP X) := by
  rintro pins s σ H x y v u Q I rx ry ⟨P, a, b, e, ha, hb, pa, pb, q⟩
  obtain ⟨as, r1⟩ := ha.reads I e pa rx
  obtain ⟨bs, r2⟩ := hb.reads I e pb ry
  obtain ⟨p1, d1⟩ := D.py_plain _ _ pa
  obtain ⟨p2, d2⟩ := D.py_plain _ _ pb
  exact PySem.SeqAt.eq_plain r1 r2 p1 p2 (by have : min (D.py a).depth (D.py b).depth ≤ 30 := Nat.le_trans (Nat.min_le_left _ _) d1; omega) ⟨.bl _, H, I, rfl, by rw [D.py_eqb _ _ a b pa pb]; exact q⟩
theorem op_neP (hu : X.A.units + 64 < cLine) : OpR X (compareOp .NotEq) (rNeP X) := by
  rintro pins s σ H x y v u Q I rx ry ⟨P, a, b, e, ha, hb, pa, pb, q⟩
  obtain ⟨as, r1⟩ := ha.reads I e pa rx
  obtain ⟨bs, r2⟩ := hb.reads I e pb ry
  obtain ⟨p1, d1⟩ := D.py_plain _ _ pa
  obtain ⟨p2, d2⟩ := D.py_plain _ _ pb
  exact PySem.SeqAt.ne_plain r1 r2 p1 p2 (by have : min (D.py a).depth (D.py b).depth ≤ 30 := Nat.le_trans (Nat.min_le_left _ _) d1; omega) ⟨.bl _, H, I, rfl, by rw [D.py_eqb _ _ a b pa pb]; exact q⟩
theorem os_eq : OpS X (rEqP X) dEq := fun P H x y a b d Q e h1 h2 hf q => by
  unfold dEq at hf
  split at hf
  · rename_i hp
    simp only [Bool.and_eq_true] at hp
    cases hf
    exact ⟨P, a, b, e, h1, h2, hp.1, hp.2, q _ _ _ (.here e) (.bl _)⟩
  · cases hf
theorem os_ne : OpS X (rNeP X) dNe := fun P H x y a b d Q e h1 h2 hf q => by
  unfold dNe at hf
  split at hf
  · rename_i hp
    simp only [Bool.and_eq_true] at hp
    cases hf
    exact ⟨P, a, b, e, h1, h2, hp.1, hp.2, q _ _ _ (.here e) (.bl _)⟩
  · cases hf
end
end DL
end
section
set_option Elab.async false
set_option linter.all false
set_option maxRecDepth 100000
namespace DL
open PySem L2 Evl

theorem len_strV (s : List Nat) : (strV s).length = s.length := by
  show (strV s).cps.size = s.length
  simp [strV]
theorem cps_strV (s : List Nat) : (strV s).cps.toList = s := by simp [strV]
theorem isIn_iff (t : List Nat) : ∀ s : List Nat, isIn t s = true ↔ ∃ i, i + t.length ≤ s.length ∧ (s.drop i).take t.length = t
  | [] => by
    unfold isIn
    constructor
    · intro h
      have : t = [] := by simpa using h
      subst this
      exact ⟨0, by simp, by simp⟩
    · rintro ⟨i, h1, h2⟩
      have : t.length = 0 := by
        have h3 : i + t.length ≤ 0 := h1
        omega
      simpa using List.eq_nil_of_length_eq_zero this
  | x :: xs => by
    unfold isIn
    rw [Bool.or_eq_true, isIn_iff t xs]
    constructor
    · rintro (h | ⟨i, h1, h2⟩)
      · have := List.isPrefixOf_iff_prefix.mp h
        obtain ⟨r, hr⟩ := this
        refine ⟨0, by rw [← hr]; simp, by rw [← hr]; simp⟩
      · exact ⟨i + 1, by simp only [List.length_cons]; omega, by simpa using h2⟩
    · rintro ⟨i, h1, h2⟩
      cases i with
      | zero =>
        left
        refine List.isPrefixOf_iff_prefix.mpr ⟨(x :: xs).drop t.length, ?_⟩
        have h3 : (x :: xs).take t.length = t := by simpa using h2
        calc t ++ (x :: xs).drop t.length = (x :: xs).take t.length ++ (x :: xs).drop t.length := by rw [h3]
          _ = x :: xs := List.take_append_drop _ _
      | succ i =>
        right
        exact ⟨i, by simp only [List.length_cons] at h1; omega, by simpa using h2⟩
theorem subAt_strV (x y : List Nat) (i : Nat) (h : i + y.length ≤ x.length) : Builtin.Str.subAt (strV x) (strV y) i = true ↔ (x.drop i).take y.length = y := by
  rw [PySem.StrLaws.subAt_eq, cps_strV, cps_strV, len_strV, beq_iff_eq]
theorem isIn_occ (x y : List Nat) : (!(Builtin.Str.occurrences (strV x) (strV y) 0 (strV x).length 1).isEmpty) = isIn y x := by
  rw [Bool.eq_iff_iff, PySem.StrLaws.found_iff, isIn_iff]
  constructor
  · rintro ⟨i, h1, h2⟩
    rw [len_strV, len_strV] at h1
    exact ⟨i, h1, (subAt_strV x y i h1).mp h2⟩
  · rintro ⟨i, h1, h2⟩
    exact ⟨i, by rw [len_strV, len_strV]; exact h1, (subAt_strV x y i h1).mpr h2⟩
/-- what an operation of two values wants, by the cases of its first part -/
def rInP (X : Cx) (neg : Bool) : R2 := fun x y H Q => ∃ P a b r, Ex P H ∧ RepW X.K X.mg P H a x ∧ RepW X.K X.mg P H b y ∧ dInB a b = some r ∧ Q (.bl (if neg then !r else r)) H
section
variable {X : Cx}
theorem pys_any (a : D) (n : Nat) (hn : D.plain n a = true) : ∀ (m : Nat) (ys : List D), D.plains m ys = true → (D.pys ys).any (fun y => PyData.eqv y (D.py a)) = ys.any fun y => D.eqb y a
  | m, [], _ => rfl
  | m, y :: ys, h => by
    simp only [D.plains, Bool.and_eq_true] at h
    simp only [D.pys, List.any_cons]
    rw [D.py_eqb m n y a h.1 hn, pys_any a n hn m ys h.2]
theorem op_inP (hu : X.A.units + 64 < cLine) : OpR X (compareOp .In) (rInP X false) := by
  rintro pins s σ H x y v u Q I rx ry ⟨P, a, b, r, e, ha, hb, hr, q⟩
  unfold dInB at hr
  split at hr
  · split at hr
    · cases hr
      cases ha; cases hb
      obtain ⟨t, rfl⟩ := rx
      obtain ⟨t', rfl⟩ := ry
      refine PyProof.Rows.in_str ⟨.bl _, H, I, rfl, ?_⟩
      rw [isIn_occ]; exact q
    · cases hr
  · split at hr
    · rename_i hp
      simp only [Bool.and_eq_true] at hp
      cases hr
      rename_i ys
      have pb : D.plain (deepest + 1) (.lst ys) = true := by simpa [D.plain] using hp.2
      obtain ⟨as, r1⟩ := ha.reads I e hp.1 rx
      obtain ⟨bs, r2⟩ := hb.reads I e pb ry
      obtain ⟨p1, d1⟩ := D.py_plain _ _ hp.1
      obtain ⟨p2, d2⟩ := D.pys_plain _ _ hp.2
      refine PySem.SeqAt.in_list_data (xs := D.pys ys) r2 r1 p2 p1 (by have : min (PyData.depthAll (D.pys ys)) (D.py a).depth ≤ 30 := Nat.le_trans (Nat.min_le_right _ _) d1; omega) ⟨.bl _, H, I, rfl, ?_⟩
      rw [pys_any a _ hp.1 _ ys hp.2]; exact q
    · cases hr
  · split at hr
    · rename_i hp
      simp only [Bool.and_eq_true] at hp
      cases hr
      rename_i ys
      have pb : D.plain (deepest + 1) (.tup ys) = true := by simpa [D.plain] using hp.2
      obtain ⟨as, r1⟩ := ha.reads I e hp.1 rx
      obtain ⟨bs, r2⟩ := hb.reads I e pb ry
      obtain ⟨p1, d1⟩ := D.py_plain _ _ hp.1
      obtain ⟨p2, d2⟩ := D.pys_plain _ _ hp.2
      refine PySem.SeqAt.in_tuple_data (xs := D.pys ys) r2 r1 p2 p1 (by have : min (PyData.depthAll (D.pys ys)) (D.py a).depth ≤ 30 := Nat.le_trans (Nat.min_le_right _ _) d1; omega) ⟨.bl _, H, I, rfl, ?_⟩
      rw [pys_any a _ hp.1 _ ys hp.2]; exact q
    · cases hr
  · cases hr
theorem op_notInP (hu : X.A.units + 64 < cLine) : OpR X (compareOp .NotIn) (rInP X true) := by
  rintro pins s σ H x y v u Q I rx ry ⟨P, a, b, r, e, ha, hb, hr, q⟩
  unfold dInB at hr
  split at hr
  · split at hr
    · cases hr
      cases ha; cases hb
      obtain ⟨t, rfl⟩ := rx
      obtain ⟨t', rfl⟩ := ry
      refine PyProof.Rows.notIn_str ⟨.bl _, H, I, rfl, ?_⟩
      rw [isIn_occ]; exact q
    · cases hr
  · split at hr
    · rename_i hp
      simp only [Bool.and_eq_true] at hp
      cases hr
      rename_i ys
      have pb : D.plain (deepest + 1) (.lst ys) = true := by simpa [D.plain] using hp.2
      obtain ⟨as, r1⟩ := ha.reads I e hp.1 rx
      obtain ⟨bs, r2⟩ := hb.reads I e pb ry
      obtain ⟨p1, d1⟩ := D.py_plain _ _ hp.1
      obtain ⟨p2, d2⟩ := D.pys_plain _ _ hp.2
      refine PySem.SeqAt.notIn_list_data (xs := D.pys ys) r2 r1 p2 p1 (by have : min (PyData.depthAll (D.pys ys)) (D.py a).depth ≤ 30 := Nat.le_trans (Nat.min_le_right _ _) d1; omega) ⟨.bl _, H, I, rfl, ?_⟩
      rw [pys_any a _ hp.1 _ ys hp.2]; exact q
    · cases hr
  · split at hr
    · rename_i hp
      simp only [Bool.and_eq_true] at hp
      cases hr
      rename_i ys
      have pb : D.plain (deepest + 1) (.tup ys) = true := by simpa [D.plain] using hp.2
      obtain ⟨as, r1⟩ := ha.reads I e hp.1 rx
      obtain ⟨bs, r2⟩ := hb.reads I e pb ry
      obtain ⟨p1, d1⟩ := D.py_plain _ _ hp.1
      obtain ⟨p2, d2⟩ := D.pys_plain _ _ hp.2
      refine PySem.SeqAt.notIn_tuple_data (xs := D.pys ys) r2 r1 p2 p1 (by have : min (PyData.depthAll (D.pys ys)) (D.py a).depth ≤ 30 := Nat.le_trans (Nat.min_le_right _ _) d1; omega) ⟨.bl _, H, I, rfl, ?_⟩
      rw [pys_any a _ hp.1 _ ys hp.2]; exact q
    · cases hr
  · cases hr
theorem os_in : OpS X (rInP X false) dIn := fun P H x y a b d Q e h1 h2 hf q => by
  unfold dIn at hf
  cases hr : dInB a b with
  | none => rw [hr] at hf; cases hf
  | some r =>
    rw [hr] at hf; cases hf
    exact ⟨P, a, b, r, e, h1, h2, hr, q _ _ _ (.here e) (.bl _)⟩
theorem os_notIn : OpS X (rInP X true) dNotIn := fun P H x y a b d Q e h1 h2 hf q => by
  unfold dNotIn at hf
  cases hr : dInB a b with
  | none => rw [hr] at hf; cases hf
  | some r =>
    rw [hr] at hf; cases hf
    exact ⟨P, a, b, r, e, h1, h2, hr, q _ _ _ (.here e) (.bl _)⟩

/-! ### order -/
def rLtP : R2 := fun x y H Q => (∃ i j, x = V.int i ∧ y = V.int j ∧ Q (.bl (decide (i < j))) H) ∨ ∃ i j, x = V.str i ∧ y = V.str j ∧ Q (.bl (decide (i.cps.toList < j.cps.toList))) H
theorem op_ltP : OpR X (compareOp .Lt) rLtP := op_lt.or op_lt_str
def rLeP : R2 := fun x y H Q => (∃ i j, x = V.int i ∧ y = V.int j ∧ Q (.bl (decide (i ≤ j))) H) ∨ ∃ i j, x = V.str i ∧ y = V.str j ∧ Q (.bl (!decide (j.cps.toList < i.cps.toList))) H
theorem op_leP : OpR X (compareOp .LtE) rLeP := op_le.or op_le_str
def rGtP : R2 := fun x y H Q => (∃ i j, x = V.int i ∧ y = V.int j ∧ Q (.bl (decide (j < i))) H) ∨ ∃ i j, x = V.str i ∧ y = V.str j ∧ Q (.bl (decide (j.cps.toList < i.cps.toList))) H
theorem op_gtP : OpR X (compareOp .Gt) rGtP := op_gt.or op_gt_str
def rGeP : R2 := fun x y H Q => (∃ i j, x = V.int i ∧ y = V.int j ∧ Q (.bl (decide (j ≤ i))) H) ∨ ∃ i j, x = V.str i ∧ y = V.str j ∧ Q (.bl (!decide (i.cps.toList < j.cps.toList))) H
theorem op_geP : OpR X (compareOp .GtE) rGeP := op_ge.or op_ge_str
theorem os_lt : OpS X rLtP dLt := fun P H x y a b d Q e h1 h2 hf q => by
  cases h1 <;> cases h2 <;> simp only [dLt, Option.some.injEq, reduceCtorEq] at hf
  · subst hf; exact .inl ⟨_, _, rfl, rfl, q _ _ _ (.here e) (.bl _)⟩
  · subst hf; refine .inr ⟨_, _, rfl, rfl, ?_⟩; rw [cps_strV, cps_strV]; exact q _ _ _ (.here e) (.bl _)
theorem os_le : OpS X rLeP dLe := fun P H x y a b d Q e h1 h2 hf q => by
  cases h1 <;> cases h2 <;> simp only [dLe, Option.some.injEq, reduceCtorEq] at hf
  · subst hf; exact .inl ⟨_, _, rfl, rfl, q _ _ _ (.here e) (.bl _)⟩
  · subst hf; refine .inr ⟨_, _, rfl, rfl, ?_⟩; rw [cps_strV, cps_strV]; exact q _ _ _ (.here e) (.bl _)
theorem os_gt : OpS X rGtP dGt := fun P H x y a b d Q e h1 h2 hf q => by
  cases h1 <;> cases h2 <;> simp only [dGt, dLt, Option.some.injEq, reduceCtorEq] at hf
  · subst hf; exact .inl ⟨_, _, rfl, rfl, q _ _ _ (.here e) (.bl _)⟩
  · subst hf; refine .inr ⟨_, _, rfl, rfl, ?_⟩; rw [cps_strV, cps_strV]; exact q _ _ _ (.here e) (.bl _)
theorem os_ge : OpS X rGeP dGe := fun P H x y a b d Q e h1 h2 hf q => by
  cases h1 <;> cases h2 <;> simp only [dGe, dLe, Option.some.injEq, reduceCtorEq] at hf
  · subst hf; exact .inl ⟨_, _, rfl, rfl, q _ _ _ (.here e) (.bl _)⟩
  · subst hf; refine .inr ⟨_, _, rfl, rfl, ?_⟩; rw [cps_strV, cps_strV]; exact q _ _ _ (.here e) (.bl _)
def rIsP : R2 := fun x y H Q => (y = V.non ∧ Q (.bl (decide (x = .non))) H) ∨ rIsB x y H Q
theorem op_isP : OpR X (compareOp .Is) rIsP := op_isN.or op_isBl
def rIsNotP : R2 := fun x y H Q => (y = V.non ∧ Q (.bl (!decide (x = .non))) H) ∨ rNotB x y H Q
theorem op_isNotP : OpR X (compareOp .IsNot) rIsNotP := op_notN.or op_notBl
theorem RepW.non_iff {P H : Hp} {a : D} {x : V} (h : RepW X.K X.mg P H a x) : decide (x = .non) = a.isNon := by
  cases h <;> simp [D.isNon]
theorem os_is : OpS X rIsP dIs := fun P H x y a b d Q e h1 h2 hf q => by
  cases h2 with
  | non =>
    simp only [dIs, Option.some.injEq] at hf
    subst hf
    refine .inl ⟨rfl, ?_⟩
    rw [h1.non_iff]; exact q _ _ _ (.here e) (.bl _)
  | bl b =>
    cases h1 <;> simp only [dIs, Option.some.injEq, reduceCtorEq] at hf
    subst hf
    refine .inr ⟨_, _, rfl, rfl, ?_⟩
    rw [← Bool.beq_eq_decide_eq]; exact q _ _ _ (.here e) (.bl _)
  | _ => cases hf
theorem os_isNot : OpS X rIsNotP dIsNot := fun P H x y a b d Q e h1 h2 hf q => by
  cases h2 with
  | non =>
    simp only [dIsNot, Option.some.injEq] at hf
    subst hf
    refine .inl ⟨rfl, ?_⟩
    rw [h1.non_iff]; exact q _ _ _ (.here e) (.bl _)
  | bl b =>
    cases h1 <;> simp only [dIsNot, Option.some.injEq, reduceCtorEq] at hf
    subst hf
    refine .inr ⟨_, _, rfl, rfl, ?_⟩
    rw [← Bool.beq_eq_decide_eq]; exact q _ _ _ (.here e) (.bl _)
  | _ => cases hf

/-! ### sums, products -/
theorem strV_app (a b : List Nat) : strV a ++ strV b = strV (a ++ b) := by
  show (⟨(strV a).cps ++ (strV b).cps⟩ : Str) = _
  simp [strV]
abbrev rAddS : R2 := fun x y H Q => ∃ i j, x = .str i ∧ y = .str j ∧ i.length + j.length ≤ sizeLine ∧ Q (.str (i ++ j)) H
def rAddP (X : Cx) : R2 := fun x y H Q => (rI0 (fun i j => .int (i + j)) x y H Q ∨ rAddS x y H Q) ∨ (rCat x y H Q ∨ rCatA X.K x y H Q)
theorem op_addP : OpR X (binaryOp .Add) (rAddP X) := (op_add.or op_add_str).or (op_cat.or op_catA)
theorem RepL.nil_iff {K : PySem.W.Frag} {mg : Str → Option Value} {P : Hp} {ds : List D} : RepL K mg P ds [] → ds = []
  | .nil => rfl
theorem os_add : OpS X (rAddP X) dAdd := fun P H x y a b d Q e h1 h2 hf q => by
  cases h1 <;> cases h2 <;> simp only [dAdd, Option.some.injEq, reduceCtorEq, Option.ite_none_right_eq_some] at hf
  · subst hf; exact .inl (.inl ⟨_, _, rfl, rfl, q _ _ _ (.here e) (.int _)⟩)
  · obtain ⟨hz, rfl⟩ := hf
    refine .inl (.inr ⟨_, _, rfl, rfl, by rw [len_strV, len_strV]; exact hz, ?_⟩)
    rw [strV_app]; exact q _ _ _ (.here e) (.str _ (by simpa using hz))
  · obtain ⟨hz, rfl⟩ := hf
    rename_i a1 ds vs h r b1 es us h' r'
    refine .inr (.inl ⟨_, _, _, _, rfl, rfl, h, h', by rw [← r.length, ← r'.length]; exact hz, fun p n => ?_⟩)
    exact q _ _ _ (.add e n) (.lst upd_same ((r.append r').mono (Ex.new (fresh_back e n))))
  · obtain ⟨hz, rfl⟩ := hf
    rename_i a1 ds vs h r b1 es us h' r'
    refine .inr (.inr ⟨_, _, _, _, rfl, rfl, .of (e _ _ h), .of (e _ _ h'), by rw [← r.length, ← r'.length]; exact hz, fun z => ?_, fun z1 z => ?_, fun _ _ p n => ?_⟩)
    · subst z; rw [r.nil_iff, List.nil_append] at q
      exact q _ _ _ (.here e) (.tup h' r')
    · subst z; rw [r'.nil_iff, List.append_nil] at q
      exact q _ _ _ (.here e) (.tup h r)
    · exact q _ _ _ (.add e n) (.tup upd_same ((r.append r').mono (Ex.new (fresh_back e n))))
theorem of_addL : OpF X (rAddP X) dAddL := fun P H x y a b d Q e h1 h2 hf q => by
  cases h1 <;> cases h2 <;> simp only [dAddL, Option.some.injEq, reduceCtorEq, Option.ite_none_right_eq_some] at hf
  obtain ⟨hz, rfl⟩ := hf
  rename_i a1 ds vs h r b1 es us h' r'
  refine .inr (.inl ⟨_, _, _, _, rfl, rfl, h, h', by rw [← r.length, ← r'.length]; exact hz, fun p n => ?_⟩)
  exact q _ _ n (Ex.new n) (.inl ⟨_, _, rfl, upd_same, r.append r'⟩)
theorem os_sub : OpS X (rI0 fun i j => .int (i - j)) dSub := fun P H x y a b d Q e h1 h2 hf q => by
  cases h1 <;> cases h2 <;> simp only [dSub, Option.some.injEq, reduceCtorEq] at hf
  subst hf; exact ⟨_, _, rfl, rfl, q _ _ _ (.here e) (.int _)⟩
theorem os_fdiv : OpS X (rI CDiv fun i j => .int (i / j)) dFdiv := fun P H x y a b d Q e h1 h2 hf q => by
  cases h1 <;> cases h2 <;> simp only [dFdiv, Option.some.injEq, reduceCtorEq, Option.ite_none_right_eq_some] at hf
  obtain ⟨hz, rfl⟩ := hf; exact ⟨_, _, rfl, rfl, hz, q _ _ _ (.here e) (.int _)⟩
theorem os_mod : OpS X (rI (fun _ j => 0 < j) fun i j => .int (i % j)) dMod := fun P H x y a b d Q e h1 h2 hf q => by
  cases h1 <;> cases h2 <;> simp only [dMod, Option.some.injEq, reduceCtorEq, Option.ite_none_right_eq_some] at hf
  obtain ⟨hz, rfl⟩ := hf; exact ⟨_, _, rfl, rfl, hz, q _ _ _ (.here e) (.int _)⟩
theorem os_shr : OpS X (rI (fun _ j => 0 ≤ j) fun i j => .int (i / 2 ^ j.toNat)) dShr := fun P H x y a b d Q e h1 h2 hf q => by
  cases h1 <;> cases h2 <;> simp only [dShr, Option.some.injEq, reduceCtorEq, Option.ite_none_right_eq_some] at hf
  obtain ⟨hz, rfl⟩ := hf; exact ⟨_, _, rfl, rfl, hz, q _ _ _ (.here e) (.int _)⟩
theorem os_shl : OpS X (rI CPow fun i j => .int (i * 2 ^ j.toNat)) dShl := fun P H x y a b d Q e h1 h2 hf q => by
  cases h1 <;> cases h2 <;> simp only [dShl, Option.some.injEq, reduceCtorEq, Option.ite_none_right_eq_some] at hf
  obtain ⟨hz, rfl⟩ := hf; exact ⟨_, _, rfl, rfl, hz, q _ _ _ (.here e) (.int _)⟩
def CPowW (i j : Int) : Prop := 0 ≤ j ∧ (Builtin.Int.intBits i : Int) * j ≤ 2 ^ 27
theorem op_powW : OpR X (binaryOp .Pow) (rI CPowW fun i j => .int (i ^ j.toNat)) := opI fun _ _ _ _ _ _ _ hc q => PyProof.Rows.pow_int hc.1 hc.2 q
theorem os_pow : OpS X (rI CPowW fun i j => .int (i ^ j.toNat)) dPow := fun P H x y a b d Q e h1 h2 hf q => by
  cases h1 <;> cases h2 <;> simp only [dPow, Option.some.injEq, reduceCtorEq, Option.ite_none_right_eq_some] at hf
  obtain ⟨hz, rfl⟩ := hf; exact ⟨_, _, rfl, rfl, hz, q _ _ _ (.here e) (.int _)⟩
theorem us_neg : UnS X (rU fun i => .int (-i)) dNeg := fun P H x a d Q e h1 hf q => by
  cases h1 <;> simp only [dNeg, Option.some.injEq, reduceCtorEq] at hf
  subst hf; exact ⟨_, rfl, q _ _ _ (.here e) (.int _)⟩
/-- text * int -/
abbrev rMulS : R2 := fun x y H Q => ∃ (s : List Nat) (k : Int), x = .str (strV s) ∧ y = .int k ∧ k ≤ 1000000 ∧ -1000000 ≤ k ∧ s.length * k.toNat ≤ 1000000 ∧ Q (.str (strV (List.replicate k.toNat s).flatten)) H
theorem foldl_app (s : List Nat) : ∀ (n : Nat) (acc : Array Nat), ((List.replicate n s.toArray).foldl (· ++ ·) acc).toList = acc.toList ++ (List.replicate n s).flatten
  | 0, acc => by simp
  | n + 1, acc => by
    rw [List.replicate_succ, List.foldl_cons, foldl_app s n]
    simp [List.replicate_succ]
theorem rep_one (s : List Nat) : (List.replicate (1 : Int).toNat s).flatten = s := by simp
theorem op_mulS : OpR X (binaryOp .Mult) rMulS := by
  rintro pins s σ H x y v u Q I rx ry ⟨t, k, rfl, rfl, h1, h2, h3, q⟩
  obtain ⟨tx, rfl⟩ := rx
  obtain ⟨ty, rfl⟩ := ry
  have hl := len_strV t
  have hs : sizeLine = 16777216 := sizeLine_eq
  have hm : t.length ≤ 1000000 ∨ k.toNat = 0 := by
    by_cases hk : k.toNat = 0
    · exact .inr hk
    · exact .inl (Nat.le_trans (Nat.le_mul_of_pos_right _ (Nat.pos_of_ne_zero hk)) h3)
  refine PySem.P.mul_str ?_ (fun a b => ?_) (fun a b => ?_) ?_
  · have z1 : ¬ k < -(2 ^ 63 : Int) := by omega
    have z2 : ¬ k ≥ 2 ^ 63 := by omega
    rw [decide_eq_false z1, decide_eq_false z2]; rfl
  · rw [hl]
    have h5 : (2 ^ 63 - 1 : Int) / 1000000 ≤ (2 ^ 63 - 1) / k := Int.le_ediv_of_mul_le (by omega) (by
      have : (2 ^ 63 - 1 : Int) / 1000000 * k ≤ (2 ^ 63 - 1) / 1000000 * 1000000 := Int.mul_le_mul_of_nonneg_left h1 (by decide)
      exact Int.le_trans this (by decide))
    have h6 : (2 ^ 63 - 1 : Int) / 1000000 = 9223372036854 := by decide
    rw [h6] at h5
    rcases hm with hm | hm <;> omega
  · rw [hl]
    unfold Builtin.Str.tooLong
    exact decide_eq_false (by omega)
  · by_cases c1 : k < 1
    · rw [if_pos c1]
      have e0 : k.toNat = 0 := by omega
      rw [e0] at q
      exact ⟨by decide, .str _, H, I.tok _, ⟨_, rfl⟩, q⟩
    · rw [if_neg c1]
      by_cases c2 : (k == 1 || (strV t).length == 0) = true
      · rw [if_pos c2]
        refine ⟨.str (strV t), H, I, ⟨_, rfl⟩, ?_⟩
        have e0 : (List.replicate k.toNat t).flatten = t := by
          simp only [Bool.or_eq_true, beq_iff_eq] at c2
          rcases c2 with c2 | c2
          · subst c2; simp
          · rw [hl] at c2
            have : t = [] := List.eq_nil_of_length_eq_zero c2
            subst this
            simp
        rw [e0] at q; exact q
      · rw [if_neg c2]
        have e0 : (⟨(List.replicate k.toNat (strV t).cps).foldl (· ++ ·) #[]⟩ : Str) = strV (List.replicate k.toNat t).flatten := by
          unfold strV
          congr 1
          apply Array.ext'
          have := foldl_app t k.toNat #[]
          simpa using this
        rw [e0]
        refine ⟨?_, .str _, H, I.tok _, ⟨_, rfl⟩, q⟩
        have e1 : (strV (List.replicate k.toNat t).flatten).length = k.toNat * t.length := by
          rw [len_strV]; simp
        rw [e1, Nat.mul_comm]
        omega
def rMulP : R2 := fun x y H Q => rI CMul (fun i j => .int (i * j)) x y H Q ∨ (rMulS x y H Q ∨ rRep x y H Q)
theorem op_mulP : OpR X (binaryOp .Mult) rMulP := op_mul.or (op_mulS.or op_rep)
theorem RepL.reps {K : PySem.W.Frag} {mg : Str → Option Value} {P : Hp} {ds : List D} {vs : List V} (h : RepL K mg P ds vs) : ∀ n : Nat, RepL K mg P (List.replicate n ds).flatten (List.replicate n vs).flatten
  | 0 => .nil
  | n + 1 => by
    rw [List.replicate_succ, List.replicate_succ, List.flatten_cons, List.flatten_cons]
    exact h.append (RepL.reps h n)
theorem os_mul : OpS X rMulP dMul := fun P H x y a b d Q e h1 h2 hf q => by
  have hs : sizeLine = 16777216 := sizeLine_eq
  cases h1 <;> cases h2 <;> simp only [dMul, Option.some.injEq, reduceCtorEq, Option.ite_none_right_eq_some] at hf
  · obtain ⟨hz, rfl⟩ := hf; exact .inl ⟨_, _, rfl, rfl, hz, q _ _ _ (.here e) (.int _)⟩
  · obtain ⟨⟨h1, h2, h3⟩, rfl⟩ := hf
    refine .inr (.inl ⟨_, _, rfl, rfl, h1, h2, h3, q _ _ _ (.here e) (.str _ ?_)⟩)
    rename_i t _ k
    have e1 : (List.replicate k.toNat t).flatten.length = k.toNat * t.length := by simp
    rw [e1, Nat.mul_comm]; omega
  · obtain ⟨⟨h1, h2, h3⟩, rfl⟩ := hf
    rename_i a ds vs h r k
    refine .inr (.inr ⟨_, _, _, rfl, rfl, h, by omega, by omega, by rw [← r.length]; omega, fun p n => ?_⟩)
    exact q _ _ _ (.add e n) (.lst upd_same ((r.reps _).mono (Ex.new (fresh_back e n))))
def dMulL (a b : D) : Option D := match a, b with
  | .lst x, .int k => if k ≤ 1000000 ∧ -1000000 ≤ k ∧ x.length * k.toNat ≤ 1000000 then some (.lst (List.replicate k.toNat x).flatten) else none
  | _, _ => none
theorem of_mulL : OpF X rMulP dMulL := fun P H x y a b d Q e h1 h2 hf q => by
  have hs : sizeLine = 16777216 := sizeLine_eq
  cases h1 <;> cases h2 <;> simp only [dMulL, Option.some.injEq, reduceCtorEq, Option.ite_none_right_eq_some] at hf
  obtain ⟨⟨h1, h2, h3⟩, rfl⟩ := hf
  rename_i a ds vs h r k
  refine .inr (.inr ⟨_, _, _, rfl, rfl, h, by omega, by omega, by rw [← r.length]; omega, fun p n => ?_⟩)
  exact q _ _ n (Ex.new n) (.inl ⟨_, _, rfl, upd_same, r.reps _⟩)
end
end DL
end
section
set_option Elab.async false
set_option linter.all false
set_option maxRecDepth 100000
namespace DL
open PySem L2 Evl

section
variable {X : Cx} {W : WX} {En : Ent} {e a b c : Expr} {pos : Pos} {f fa fb fc : Ga → R (Res × Ga)}

/-! ### values that are tests, too -/
def EvB (X : Cx) (W : WX) (En : Ent) (e : Expr) (f : Ga → R (Res × Ga)) : Prop :=
  ∃ t, PE X e t ∧ PT X e (tTest t) ∧ ∀ σ H P γ Q, Sat X.K X.mg En P σ H γ → PostG X W En (repE X) σ P H γ Q (f γ) → t σ H Q
theorem EvB.v (h : EvB X W En e f) : Ev X W En e f := let ⟨t, p, _, q⟩ := h; ⟨t, p, q⟩
def toT (f : Ga → R (Res × Ga)) : Ga → R (Bool × Ga) := fun γ => f γ >>= fun p => match p.1 with
  | .val (.bl b) => .ok (b, p.2)
  | _ => .no
theorem toT_go {t : TE} (h : ∀ σ H P γ Q, Sat X.K X.mg En P σ H γ → PostG X W En (repE X) σ P H γ Q (f γ) → t σ H Q) {σ : L2.St} {H P : Hp} {γ : Ga} {Q : Bool → Hp → Prop} (S : Sat X.K X.mg En P σ H γ)
    (q : PostG X W En repT σ P H γ Q (toT f γ)) : t σ H fun x H' => ∃ k, x = .bl k ∧ Q k H' := by
  refine h σ H P γ _ S ?_
  unfold toT at q
  cases e : f γ with
  | no => rw [e] at q; exact q
  | exc c => rw [e] at q; exact q
  | ok p =>
    obtain ⟨r, γ'⟩ := p
    rw [e, R.ok_bind] at q
    intro v H' P' S' T' rv
    cases r with
    | cell i => exact q.elim
    | val d =>
      cases d with
      | bl b => cases rv; exact ⟨b, rfl, q b H' P' S' T' rfl⟩
      | _ => exact q.elim
theorem EvB.t (h : EvB X W En e f) : EvT X W En e (toT f) := let ⟨t, _, p, q⟩ := h; ⟨_, p, fun _ _ _ _ _ S => toT_go q S⟩
/-- an expression whose value is a truth, as a test -/
theorem EvT.val (h : Ev X W En e f) (he : ∀ whole, isTrue e X.env whole = (do let v ← whole; standAt e.pos; holding [v] (truthy v)) := by intro _; rfl) : EvT X W En e (toT f) :=
  let ⟨t, p, q⟩ := h; ⟨_, pt_val p he, fun _ _ _ _ _ S => toT_go q S⟩
/-- whether a value counts as true -/
def dTru : D → Option Bool
  | .non => some false
  | .bl b => some b
  | .int i => some (i != 0)
  | .str s => some (!s.isEmpty)
  | .lst xs => some (!xs.isEmpty)
  | .tup xs => some (!xs.isEmpty)
  | .scr xs => some (!xs.isEmpty)
  | _ => none
theorem KsK.length : ∀ {ks : List DK} {us : List Key}, KsK ks us → ks.length = us.length
  | _, _, .nil => rfl
  | _, _, .i r => congrArg (· + 1) r.length
  | _, _, .s r => congrArg (· + 1) r.length
theorem KsT.length : ∀ {ks : List DK} {us : List (List Key)}, KsT ks us → ks.length = us.length
  | _, _, .nil => rfl
  | _, _, .t r => congrArg (· + 1) r.length
theorem isEmpty_len {α β : Type} {xs : List α} {ys : List β} (h : xs.length = ys.length) : xs.isEmpty = ys.isEmpty := by
  cases xs <;> cases ys <;> simp_all
theorem tru_of {P H : Hp} {d : D} {x : V} {k : Bool} (e : Ex P H) (h : RepW X.K X.mg P H d x) (hk : dTru d = some k) : TruV X.K x H k := by
  cases h <;> simp only [dTru, Option.some.injEq, reduceCtorEq] at hk <;> try subst hk
  · rfl
  · rfl
  · rfl
  · rename_i s hs
    refine ⟨by rw [len_strV]; exact hs, ?_⟩
    rw [len_strV]
    cases s with
    | nil => rfl
    | cons a r => simp; omega
  · rename_i h r
    exact .inl ⟨_, .of h, by rw [isEmpty_len r.length]⟩
  · rename_i h r
    exact .inr (.inl ⟨_, .of (e _ _ h), by rw [isEmpty_len r.length]⟩)
  · rename_i h r
    exact .inl ⟨_, ex_l e h, by rw [isEmpty_len r.length]⟩
def toTr (f : Ga → R (Res × Ga)) : Ga → R (Bool × Ga) := fun γ => f γ >>= fun p => deref p.2 p.1 >>= fun d => ofO (dTru d) >>= fun k => .ok (k, p.2)
theorem EvT.truth (h : Ev X W En e f) (he : ∀ whole, isTrue e X.env whole = (do let v ← whole; standAt e.pos; holding [v] (truthy v)) := by intro _; rfl) : EvT X W En e (toTr f) := by
  obtain ⟨t, p, h⟩ := h
  refine ⟨_, pt_truth p he, fun σ H P γ Q S q => one_go (rep := repT) (k := fun d γ2 => ofO (dTru d) >>= fun k => .ok (k, γ2)) (R' := fun x H' => ∃ k, TruV X.K x H' k ∧ Q k H') h hrepT S q fun P2 H2 γ2 d x S2 r1 q2 => ?_⟩
  rcases ofO_cases (dTru d) with ⟨k, e, e'⟩ | e
  · rw [e', R.ok_bind] at q2
    exact ⟨k, tru_of S2.sub r1 e, q2 k H2 P2 S2 .refl rfl⟩
  · rw [e] at q2; exact q2.elim

/-! ### comparisons -/
theorem evb_cmp {op : CmpOp} {r : R2} {f : D → D → Option D} (ho : OpR X (compareOp op) r) (hs : OpS X r f) (hm : behindInMarks op b = false) (ha : Ev X W En a fa) (hb : Ev X W En b fb) : EvB X W En (.Compare a [op] [b] pos) (eOp2 f fa fb) := by
  obtain ⟨ta, pa, ha⟩ := ha
  obtain ⟨tb, pb, hb⟩ := hb
  refine ⟨_, pe_cmpR ho pa pb hm, pt_cmpR ho pa pb hm, fun σ H P γ Q S q => two_go (rep := repE X) (k := fun a b γ2 => ofO (f a b) >>= fun d => .ok (.val d, γ2)) ha hb hrepE S q fun P2 H2 γ2 a b x y S2 r1 r2 q2 => ?_⟩
  rcases ofO_cases (f a b) with ⟨d, e, e'⟩ | e
  · rw [e', R.ok_bind] at q2
    exact hs P2 H2 x y a b d Q S2.sub r1 r2 e fun v H' P' g r => q2.val S2 g r
  · rw [e] at q2; exact q2.elim

/-! ### and, or, not of tests -/
def tAnd (fa fb : Ga → R (Bool × Ga)) : Ga → R (Bool × Ga) := fun γ => fa γ >>= fun p => if p.1 = true then fb p.2 else .ok (false, p.2)
def tOr (fa fb : Ga → R (Bool × Ga)) : Ga → R (Bool × Ga) := fun γ => fa γ >>= fun p => if p.1 = true then .ok (true, p.2) else fb p.2
def tNot (fa : Ga → R (Bool × Ga)) : Ga → R (Bool × Ga) := fun γ => fa γ >>= fun p => .ok (!p.1, p.2)
theorem test_go {β : Type} {α : Type} {rep : Hp → Hp → Hp → L2.St → α → β → Prop} {ta : TT} {fa : Ga → R (Bool × Ga)} (ha : ∀ σ H P γ Q, Sat X.K X.mg En P σ H γ → PostG X W En repT σ P H γ Q (fa γ) → ta σ H Q)
    (hrep : ∀ H H1 P' H' σ a b, (∀ x, H x ≠ none → H1 x ≠ none) → rep H1 P' H' σ a b → rep H P' H' σ a b)
    {σ : L2.St} {H P : Hp} {γ : Ga} {Q : β → Hp → Prop} {k : Bool → Ga → R (α × Ga)} {R' : Bool → Hp → Prop} (S : Sat X.K X.mg En P σ H γ)
    (q : PostG X W En rep σ P H γ Q (fa γ >>= fun p => k p.1 p.2))
    (hk : ∀ P2 H2 γ2 b, Sat X.K X.mg En P2 σ H2 γ2 → PostG X W En rep σ P2 H2 γ2 Q (k b γ2) → R' b H2) : ta σ H R' := by
  refine ha σ H P γ _ S ?_
  cases ea : fa γ with
  | no => rw [ea] at q; exact q
  | exc c => rw [ea] at q; exact q
  | ok p =>
    obtain ⟨ra, γ1⟩ := p
    rw [ea] at q
    rintro x H1 P1 S1 T1 rfl
    exact hk P1 H1 γ1 ra S1 (PostG.later T1 (fun P' H' σ a b => hrep _ _ P' H' σ a b T1.dom) q)
variable {gt ga gb : Ga → R (Bool × Ga)}
theorem EvT.not (h : EvT X W En a ga) : EvT X W En (.UnaryOp .Not a pos) (tNot ga) := by
  obtain ⟨t, p, h⟩ := h
  exact ⟨_, pt_not p, fun σ H P γ Q S q => test_go (rep := repT) (k := fun b γ => .ok (!b, γ)) h hrepT S q fun P2 H2 γ2 b S2 q2 => q2 _ _ _ S2 .refl rfl⟩
theorem EvW.t (h : EvW X W En e gt) : EvT X W En e gt := let ⟨t, p, q⟩ := h; ⟨t, p.pt, q⟩
theorem EvW.and1 (h : EvT X W En a ga) : EvW X W En (.BoolOp .And [a] pos) ga := let ⟨t, p, q⟩ := h; ⟨t, pw_and1 p, q⟩
theorem EvW.or1 (h : EvT X W En a ga) : EvW X W En (.BoolOp .Or [a] pos) ga := let ⟨t, p, q⟩ := h; ⟨t, pw_or1 p, q⟩
theorem EvW.and {rest : List Expr} (h : EvT X W En a ga) (h2 : EvW X W En (.BoolOp .And (b :: rest) pos) gb) : EvW X W En (.BoolOp .And (a :: b :: rest) pos) (tAnd ga gb) := by
  obtain ⟨t, p, h⟩ := h
  obtain ⟨t2, p2, h2⟩ := h2
  refine ⟨_, pw_and p p2, fun σ H P γ Q S q => test_go (rep := repT) (k := fun b γ => if b = true then gb γ else .ok (false, γ)) h hrepT S q fun P2 H2 γ2 b S2 q2 => ?_⟩
  cases b with
  | true => exact h2 σ H2 P2 γ2 Q S2 q2
  | false => exact q2 _ _ _ S2 .refl rfl
theorem EvW.or {rest : List Expr} (h : EvT X W En a ga) (h2 : EvW X W En (.BoolOp .Or (b :: rest) pos) gb) : EvW X W En (.BoolOp .Or (a :: b :: rest) pos) (tOr ga gb) := by
  obtain ⟨t, p, h⟩ := h
  obtain ⟨t2, p2, h2⟩ := h2
  refine ⟨_, pw_or p p2, fun σ H P γ Q S q => test_go (rep := repT) (k := fun b γ => if b = true then .ok (true, γ) else gb γ) h hrepT S q fun P2 H2 γ2 b S2 q2 => ?_⟩
  cases b with
  | true => exact q2 _ _ _ S2 .refl rfl
  | false => exact h2 σ H2 P2 γ2 Q S2 q2
/-- a if t else b -/
def eIf (g : Ga → R (Bool × Ga)) (fa fb : Ga → R (Res × Ga)) : Ga → R (Res × Ga) := fun γ => g γ >>= fun p => if p.1 = true then fa p.2 else fb p.2
theorem ev_if (h : EvT X W En c gt) (ha : Ev X W En a fa) (hb : Ev X W En b fb) : Ev X W En (.IfExp c a b pos) (eIf gt fa fb) := by
  obtain ⟨t, p, h⟩ := h
  obtain ⟨ta, pa, ha⟩ := ha
  obtain ⟨tb, pb, hb⟩ := hb
  refine ⟨_, pe_ifExp p pa pb, fun σ H P γ Q S q => test_go (rep := repE X) (k := fun b γ => if b = true then fa γ else fb γ) h hrepE S q fun P2 H2 γ2 b S2 q2 => ?_⟩
  cases b with
  | true => exact ha σ H2 P2 γ2 Q S2 q2
  | false => exact hb σ H2 P2 γ2 Q S2 q2
/-! ### and, or, not of truths, as values -/
def eAnd (fa fb : Ga → R (Res × Ga)) : Ga → R (Res × Ga) := fun γ => toT fa γ >>= fun p => if p.1 = true then fb p.2 else .ok (.val (.bl false), p.2)
def eOr (fa fb : Ga → R (Res × Ga)) : Ga → R (Res × Ga) := fun γ => toT fa γ >>= fun p => if p.1 = true then .ok (.val (.bl true), p.2) else fb p.2
def eNot (fa : Ga → R (Res × Ga)) : Ga → R (Res × Ga) := fun γ => toT fa γ >>= fun p => .ok (.val (.bl (!p.1)), p.2)
theorem ev_one {op} (h : Ev X W En a fa) : Ev X W En (.BoolOp op [a] pos) fa := let ⟨t, p, q⟩ := h; ⟨t, pe_one p, q⟩
theorem ev_and {rest : List Expr} (h : Ev X W En a fa) (h2 : Ev X W En (.BoolOp .And (b :: rest) pos) fb) : Ev X W En (.BoolOp .And (a :: b :: rest) pos) (eAnd fa fb) := by
  obtain ⟨t, p, h⟩ := h
  obtain ⟨t2, p2, h2⟩ := h2
  refine ⟨_, pe_and p p2, fun σ H P γ Q S q => test_go (rep := repE X) (ta := fun σ H R => t σ H fun x H' => ∃ k, x = .bl k ∧ R k H') (k := fun b γ => if b = true then fb γ else .ok (.val (.bl false), γ)) (fun σ H P γ Q S => toT_go h S) hrepE S q fun P2 H2 γ2 b S2 q2 => ?_⟩
  cases b with
  | true => exact h2 σ H2 P2 γ2 Q S2 q2
  | false => exact q2 _ _ _ S2 .refl (.bl _)
theorem ev_or {rest : List Expr} (h : Ev X W En a fa) (h2 : Ev X W En (.BoolOp .Or (b :: rest) pos) fb) : Ev X W En (.BoolOp .Or (a :: b :: rest) pos) (eOr fa fb) := by
  obtain ⟨t, p, h⟩ := h
  obtain ⟨t2, p2, h2⟩ := h2
  refine ⟨_, pe_or p p2, fun σ H P γ Q S q => test_go (rep := repE X) (ta := fun σ H R => t σ H fun x H' => ∃ k, x = .bl k ∧ R k H') (k := fun b γ => if b = true then .ok (.val (.bl true), γ) else fb γ) (fun σ H P γ Q S => toT_go h S) hrepE S q fun P2 H2 γ2 b S2 q2 => ?_⟩
  cases b with
  | true => exact q2 _ _ _ S2 .refl (.bl _)
  | false => exact h2 σ H2 P2 γ2 Q S2 q2
theorem ev_not (h : Ev X W En a fa) : Ev X W En (.UnaryOp .Not a pos) (eNot fa) := by
  obtain ⟨t, p, h⟩ := h
  exact ⟨_, pe_not p, fun σ H P γ Q S q => test_go (rep := repE X) (ta := fun σ H R => t σ H fun x H' => ∃ k, x = .bl k ∧ R k H') (k := fun b γ => .ok (.val (.bl (!b)), γ)) (fun σ H P γ Q S => toT_go h S) hrepE S q fun P2 H2 γ2 b S2 q2 => q2 _ _ _ S2 .refl (.bl _)⟩

/-! ### arguments -/
def aNil : Ga → R (List Res × Ga) := fun γ => .ok ([], γ)
def aCons (f : Ga → R (Res × Ga)) (g : Ga → R (List Res × Ga)) : Ga → R (List Res × Ga) := fun γ => f γ >>= fun p => g p.2 >>= fun q => .ok (p.1 :: q.1, q.2)
/-- *e -/
def aStar (f : Ga → R (Res × Ga)) (g : Ga → R (List Res × Ga)) : Ga → R (List Res × Ga) := fun γ => f γ >>= fun p => deref p.2 p.1 >>= fun d => match d with
  | .lst ds => g p.2 >>= fun q => .ok (ds.map .val ++ q.1, q.2)
  | .tup ds => g p.2 >>= fun q => .ok (ds.map .val ++ q.1, q.2)
  | .scr ds => g p.2 >>= fun q => .ok (ds.map .val ++ q.1, q.2)
  | _ => .no
variable {es : List Expr} {g : Ga → R (List Res × Ga)}
theorem ea_nil : EvA X W En [] aNil := ⟨_, pa_nil, fun σ H P γ Q S q => q [] H P S .refl .nil⟩
theorem ea_cons (h : Ev X W En e f) (hr : EvA X W En es g) (hs : starEach (e :: es) X.env = (false, eval e X.env) :: starEach es X.env := by rfl) : EvA X W En (e :: es) (aCons f g) := by
  obtain ⟨t, p, h⟩ := h
  obtain ⟨t2, p2, h2⟩ := hr
  refine ⟨_, pa_cons p p2 hs, fun σ H P γ Q S q => h σ H P γ _ S ?_⟩
  unfold aCons at q
  cases e1 : f γ with
  | no => rw [e1] at q; exact q
  | exc c => rw [e1] at q; exact q
  | ok r =>
    obtain ⟨r, γ1⟩ := r
    rw [e1, R.ok_bind] at q
    intro v H1 P1 S1 T1 rv
    refine h2 σ H1 P1 γ1 _ S1 ?_
    have q1 := PostG.later T1 (fun _ _ _ _ _ h => h) q
    change PostG X W En (repA X) σ P1 H1 γ1 Q (g γ1 >>= fun q => .ok (r :: q.1, q.2)) at q1
    cases e2 : g γ1 with
    | no => rw [e2] at q1; exact q1
    | exc c => rw [e2] at q1; exact q1
    | ok r2 =>
      obtain ⟨rs, γ2⟩ := r2
      rw [e2] at q1
      intro vs H2 P2 S2 T2 rvs
      exact q1 (v :: vs) H2 P2 S2 T2 (.cons (rv.mono T2.ph) rvs)
theorem RepL.res {K : PySem.W.Frag} {mg : Str → Option Value} {P : Hp} {σ : L2.St} : ∀ {ds : List D} {vs : List V}, RepL K mg P ds vs → ResReps K mg P σ (ds.map .val) vs
  | _, _, .nil => .nil
  | _, _, .cons h r => .cons h (RepL.res r)
theorem ResReps.append {K : PySem.W.Frag} {mg : Str → Option Value} {P : Hp} {σ : L2.St} : ∀ {rs qs : List Res} {vs us : List V}, ResReps K mg P σ rs vs → ResReps K mg P σ qs us → ResReps K mg P σ (rs ++ qs) (vs ++ us)
  | _, _, _, _, .nil, s => s
  | _, _, _, _, .cons h r, s => .cons h (ResReps.append r s)
theorem ea_star {sp : Pos} (h : Ev X W En e f) (hr : EvA X W En es g) (hs : starEach (.Starred e sp :: es) X.env = (true, eval e X.env) :: starEach es X.env := by rfl) : EvA X W En (.Starred e sp :: es) (aStar f g) := by
  obtain ⟨t, p, h⟩ := h
  obtain ⟨t2, p2, h2⟩ := hr
  refine ⟨_, StX.pa_star p p2 hs, fun σ H P γ Q S q => one_go (rep := repA X) (k := fun d γ2 => match d with
    | .lst ds => g γ2 >>= fun q => .ok (ds.map .val ++ q.1, q.2)
    | .tup ds => g γ2 >>= fun q => .ok (ds.map .val ++ q.1, q.2)
    | .scr ds => g γ2 >>= fun q => .ok (ds.map .val ++ q.1, q.2)
    | _ => .no) h (fun _ _ _ _ _ _ _ _ h => h) S q fun P2 H2 γ2 d x S2 r1 q2 => ?_⟩
  have fin : ∀ {ds : List D} {vs : List V}, RepL X.K X.mg P2 ds vs → PostG X W En (repA X) σ P2 H2 γ2 Q (g γ2 >>= fun q => .ok (ds.map .val ++ q.1, q.2)) → t2 σ H2 fun ys H2 => Q (vs ++ ys) H2 := fun {ds vs} r q => by
    refine h2 σ H2 P2 γ2 _ S2 ?_
    cases e2 : g γ2 with
    | no => rw [e2] at q; exact q
    | exc c => rw [e2] at q; exact q
    | ok r2 =>
      obtain ⟨rs, γ3⟩ := r2
      rw [e2] at q
      intro us H3 P3 S3 T3 rvs
      exact q _ H3 P3 S3 T3 ((r.res.mono T3.ph).append rvs)
  cases r1 with
  | lst hl r => exact ⟨_, _, rfl, .inr (.of hl), fin r q2⟩
  | tup hl r => exact ⟨_, _, rfl, .inl (.of (S2.sub _ _ hl)), fin r q2⟩
  | scr hl r => exact ⟨_, _, rfl, .inr (ex_l S2.sub hl), fin r q2⟩
  | _ => exact q2.elim
def derefs (γ : Ga) : List Res → R (List D)
  | [] => .ok []
  | r :: rs => deref γ r >>= fun d => derefs γ rs >>= fun ds => .ok (d :: ds)
/-- trees alone, no object of a slot -/
def vals : List Res → R (List D)
  | [] => .ok []
  | .val d :: rs => vals rs >>= fun ds => .ok (d :: ds)
  | _ => .no
theorem vals_rep {K : PySem.W.Frag} {mg : Str → Option Value} {P : Hp} {σ : L2.St} : ∀ {rs : List Res} {vs : List V} {ds : List D}, ResReps K mg P σ rs vs → vals rs = .ok ds → RepL K mg P ds vs
  | _, _, _, .nil, h => by cases h; exact .nil
  | .val d :: rs, _, _, .cons h r, e => by
    unfold vals at e
    cases e2 : vals rs with
    | ok ds => rw [e2, R.ok_bind] at e; cases e; exact .cons h (vals_rep r e2)
    | exc c => rw [e2] at e; cases e
    | no => rw [e2] at e; cases e
  | .cell i :: rs, _, _, .cons h r, e => by cases e
theorem vals_cases : ∀ rs : List Res, (∃ ds, vals rs = .ok ds) ∨ vals rs = .no
  | [] => .inl ⟨[], rfl⟩
  | .val d :: rs => by
    rcases vals_cases rs with ⟨ds, e⟩ | e
    · exact .inl ⟨d :: ds, by unfold vals; rw [e]; rfl⟩
    · exact .inr (by unfold vals; rw [e]; rfl)
  | .cell i :: rs => .inr rfl
theorem derefs_cases (γ : Ga) : ∀ rs : List Res, (∃ ds, derefs γ rs = .ok ds) ∨ derefs γ rs = .no
  | [] => .inl ⟨[], rfl⟩
  | r :: rs => by
    unfold derefs
    rcases deref_cases γ r with ⟨d, e⟩ | e
    · rw [e, R.ok_bind]
      rcases derefs_cases γ rs with ⟨ds, e⟩ | e
      · rw [e]; exact .inl ⟨_, rfl⟩
      · rw [e]; exact .inr rfl
    · rw [e]; exact .inr rfl
theorem Sat.ws {K : PySem.W.Frag} {mg : Str → Option Value} {P H : Hp} {σ : L2.St} {γ : Ga} (S : Sat K mg En P σ H γ) : ∀ {rs : List Res} {vs : List V} {ds : List D}, ResReps K mg P σ rs vs → derefs γ rs = .ok ds → RepWs K mg P H ds vs
  | _, _, _, .nil, h => by cases h; exact .nil
  | r :: rs, _, _, .cons h t, e => by
    unfold derefs at e
    rcases deref_cases γ r with ⟨d, e1⟩ | e1
    · rw [e1, R.ok_bind] at e
      rcases derefs_cases γ rs with ⟨ds', e2⟩ | e2
      · rw [e2, R.ok_bind] at e; cases e
        exact .cons (S.w h e1) (S.ws t e2)
      · rw [e2] at e; cases e
    · rw [e1] at e; cases e
/-- arguments, then what is made of them -/
theorem args_go {α β : Type} {rep : Hp → Hp → Hp → L2.St → α → β → Prop} {t : TA} (h : ∀ σ H P γ Q, Sat X.K X.mg En P σ H γ → PostG X W En (repA X) σ P H γ Q (g γ) → t σ H Q)
    (hrep : ∀ H H1 P' H' σ a b, (∀ x, H x ≠ none → H1 x ≠ none) → rep H1 P' H' σ a b → rep H P' H' σ a b)
    {σ : L2.St} {H P : Hp} {γ : Ga} {Q : β → Hp → Prop} {k : List Res → Ga → R (α × Ga)} {R' : List V → Hp → Prop} (S : Sat X.K X.mg En P σ H γ)
    (q : PostG X W En rep σ P H γ Q (g γ >>= fun p => k p.1 p.2))
    (hk : ∀ P2 H2 γ2 rs vs, Sat X.K X.mg En P2 σ H2 γ2 → Stp En.T σ γ P H γ2 P2 H2 → ResReps X.K X.mg P2 σ rs vs → PostG X W En rep σ P2 H2 γ2 Q (k rs γ2) → R' vs H2) : t σ H R' := by
  refine h σ H P γ _ S ?_
  cases ea : g γ with
  | no => rw [ea] at q; exact q
  | exc c => rw [ea] at q; exact q
  | ok p =>
    obtain ⟨ra, γ1⟩ := p
    rw [ea] at q
    intro x H1 P1 S1 T1 r1
    exact hk P1 H1 γ1 ra x S1 T1 r1 (PostG.later T1 (fun P' H' σ a b => hrep _ _ P' H' σ a b T1.dom) q)
/-! ### displays -/
def eTup (g : Ga → R (List Res × Ga)) : Ga → R (Res × Ga) := fun γ => g γ >>= fun p => vals p.1 >>= fun ds => if ds.length ≤ sizeLine then .ok (.val (.tup ds), p.2) else .no
def fLst (g : Ga → R (List Res × Ga)) : Ga → R (D × Ga) := fun γ => g γ >>= fun p => vals p.1 >>= fun ds => if ds.length ≤ sizeLine then .ok (.lst ds, p.2) else .no
theorem ev_tup {x1} (h : EvA X W En es g) : Ev X W En (.Tuple es x1 pos) (eTup g) := by
  obtain ⟨t, p, h⟩ := h
  refine ⟨_, pe_tup p, fun σ H P γ Q S q => args_go (rep := repE X) (k := fun rs γ => vals rs >>= fun ds => if ds.length ≤ sizeLine then .ok (.val (.tup ds), γ) else .no) h hrepE S q fun P2 H2 γ2 rs vs S2 T2 r q2 => ?_⟩
  rcases vals_cases rs with ⟨ds, e⟩ | e
  · rw [e, R.ok_bind] at q2
    have rl := vals_rep r e
    split at q2
    · rename_i hz
      exact ⟨by rw [← rl.length]; exact hz, fun p n => q2.val S2 (.add S2.sub n) (.tup upd_same (rl.mono (Ex.new (fresh_back S2.sub n))))⟩
    · exact q2.elim
  · rw [e] at q2; exact q2.elim
theorem ef_lst (h : EvA X W En es g) : EvF X W En (.List es pos) (fLst g) := by
  obtain ⟨t, p, h⟩ := h
  refine ⟨_, pe_lst p, fun σ H P γ Q S q => args_go (rep := repF X) (k := fun rs γ => vals rs >>= fun ds => if ds.length ≤ sizeLine then .ok (.lst ds, γ) else .no) h hrepF S q fun P2 H2 γ2 rs vs S2 T2 r q2 => ?_⟩
  rcases vals_cases rs with ⟨ds, e⟩ | e
  · rw [e, R.ok_bind] at q2
    have rl := vals_rep r e
    split at q2
    · rename_i hz
      exact ⟨by rw [← rl.length]; exact hz, fun p n => q2.new S2 n (Ex.new n) (.inl ⟨_, _, rfl, upd_same, rl⟩)⟩
    · exact q2.elim
  · rw [e] at q2; exact q2.elim
/-! ### built-in functions and types by name -/
def eCall (F : List D → Option D) (g : Ga → R (List Res × Ga)) : Ga → R (Res × Ga) := fun γ => g γ >>= fun p => derefs p.2 p.1 >>= fun ds => ofO (F ds) >>= fun d => .ok (.val d, p.2)
def fCall (F : List D → Option D) (g : Ga → R (List Res × Ga)) : Ga → R (D × Ga) := fun γ => g γ >>= fun p => derefs p.2 p.1 >>= fun ds => ofO (F ds) >>= fun d => .ok (d, p.2)
variable {F : List D → Option D} {x : Str} {p : Pos} {id T : String} {r : List V → Hp → VK → Prop}
theorem callS_go {t : TA} (cs : CallS X r F) (h : ∀ σ H P γ Q, Sat X.K X.mg En P σ H γ → PostG X W En (repA X) σ P H γ Q (g γ) → t σ H Q) {σ : L2.St} {H P : Hp} {γ : Ga} {Q : VK} (S : Sat X.K X.mg En P σ H γ)
    (q : PostG X W En (repE X) σ P H γ Q (eCall F g γ)) : t σ H fun vs H1 => r vs H1 Q :=
  args_go (rep := repE X) (k := fun rs γ => derefs γ rs >>= fun ds => ofO (F ds) >>= fun d => .ok (.val d, γ)) h hrepE S q fun P2 H2 γ2 rs vs S2 T2 r q2 => by
    rcases derefs_cases γ2 rs with ⟨ds, e⟩ | e
    · rw [e, R.ok_bind] at q2
      rcases ofO_cases (F ds) with ⟨d, e2, e'⟩ | e2
      · rw [e', R.ok_bind] at q2
        exact cs P2 H2 vs ds d Q S2.sub (S2.ws r e) e2 fun v H' P' g r => q2.val S2 g r
      · rw [e2] at q2; exact q2.elim
    · rw [e] at q2; exact q2.elim
theorem callF_go {t : TA} (cs : CallF X r F) (h : ∀ σ H P γ Q, Sat X.K X.mg En P σ H γ → PostG X W En (repA X) σ P H γ Q (g γ) → t σ H Q) {σ : L2.St} {H P : Hp} {γ : Ga} {Q : VK} (S : Sat X.K X.mg En P σ H γ)
    (q : PostG X W En (repF X) σ P H γ Q (fCall F g γ)) : t σ H fun vs H1 => r vs H1 Q :=
  args_go (rep := repF X) (k := fun rs γ => derefs γ rs >>= fun ds => ofO (F ds) >>= fun d => .ok (d, γ)) h hrepF S q fun P2 H2 γ2 rs vs S2 T2 r q2 => by
    rcases derefs_cases γ2 rs with ⟨ds, e⟩ | e
    · rw [e, R.ok_bind] at q2
      rcases ofO_cases (F ds) with ⟨d, e2, e'⟩ | e2
      · rw [e', R.ok_bind] at q2
        exact cs P2 H2 vs ds d Q S2.sub (S2.ws r e) e2 fun p H' n ex o => q2.new S2 n ex o
      · rw [e2] at q2; exact q2.elim
    · rw [e] at q2; exact q2.elim
theorem ev_callB (hc : CallR X (.builtin id) r) (cs : CallS X r F) (hg : Gl X x) (hm : X.mg x = none) (hv : bootBuiltins x = some (.builtin id)) (ha : EvA X W En (e :: es) g) (hn : x ≠ "__name__" := by decide) (hdb : (x == ("__debug__" : Str)) = false := by decide)
    (he : starEach (e :: es) X.env = (false, eval e X.env) :: starEach es X.env := by rfl) (hpl : (backTo pos (starEach es X.env)).any (·.1) = false := by rfl) : Ev X W En (.Call (.Name x p) (e :: es) [] pos) (eCall F g) :=
  let ⟨_, pa, h⟩ := ha
  ⟨_, pe_callB hc hg hm hv pa hn hdb he hpl, fun _ _ _ _ _ S q => callS_go cs h S q⟩
theorem ef_callB (hc : CallR X (.builtin id) r) (cs : CallF X r F) (hg : Gl X x) (hm : X.mg x = none) (hv : bootBuiltins x = some (.builtin id)) (ha : EvA X W En (e :: es) g) (hn : x ≠ "__name__" := by decide) (hdb : (x == ("__debug__" : Str)) = false := by decide)
    (he : starEach (e :: es) X.env = (false, eval e X.env) :: starEach es X.env := by rfl) (hpl : (backTo pos (starEach es X.env)).any (·.1) = false := by rfl) : EvF X W En (.Call (.Name x p) (e :: es) [] pos) (fCall F g) :=
  let ⟨_, pa, h⟩ := ha
  ⟨_, pe_callB hc hg hm hv pa hn hdb he hpl, fun _ _ _ _ _ S q => callF_go cs h S q⟩
theorem ev_callTy (hc : CallR X (.type T) r) (cs : CallS X r F) (hg : Gl X x) (hm : X.mg x = none) (hv : bootBuiltins x = some (.type T)) (ha : EvA X W En (e :: es) g) (hn : x ≠ "__name__" := by decide) (hdb : (x == ("__debug__" : Str)) = false := by decide)
    (he : starEach (e :: es) X.env = (false, eval e X.env) :: starEach es X.env := by rfl) (hpl : (backTo pos (starEach es X.env)).any (·.1) = false := by rfl) : Ev X W En (.Call (.Name x p) (e :: es) [] pos) (eCall F g) :=
  let ⟨_, pa, h⟩ := ha
  ⟨_, pe_callTy hc hg hm hv pa hn hdb he hpl, fun _ _ _ _ _ S q => callS_go cs h S q⟩
theorem ef_callTy (hc : CallR X (.type T) r) (cs : CallF X r F) (hg : Gl X x) (hm : X.mg x = none) (hv : bootBuiltins x = some (.type T)) (ha : EvA X W En (e :: es) g) (hn : x ≠ "__name__" := by decide) (hdb : (x == ("__debug__" : Str)) = false := by decide)
    (he : starEach (e :: es) X.env = (false, eval e X.env) :: starEach es X.env := by rfl) (hpl : (backTo pos (starEach es X.env)).any (·.1) = false := by rfl) : EvF X W En (.Call (.Name x p) (e :: es) [] pos) (fCall F g) :=
  let ⟨_, pa, h⟩ := ha
  ⟨_, pe_callTy hc hg hm hv pa hn hdb he hpl, fun _ _ _ _ _ S q => callF_go cs h S q⟩
end
end DL
end
section
set_option Elab.async false
set_option linter.all false
set_option maxRecDepth 100000
namespace DL
open PySem L2 Evl

/-! ### dicts as trees -/
def atK : D → Option (Int ⊕ List Nat)
  | .int i => some (.inl i)
  | .str s => some (.inr s)
  | _ => none
def atKs : List D → Option (List (Int ⊕ List Nat))
  | [] => some []
  | d :: ds => match atK d with
    | some k => match atKs ds with
      | some r => some (k :: r)
      | none => none
    | none => none
def D.key : D → Option DK
  | .int i => some (.i i)
  | .str s => some (.s s)
  | .tup ds => match atKs ds with
    | some r => some (.t r)
    | none => none
  | _ => none
def DK.isT : DK → Bool
  | .t _ => true
  | _ => false
def dLook : List DK → List D → DK → Option D
  | k :: ks, v :: vs, x => if k = x then some v else dLook ks vs x
  | _, _, _ => none
/-- the places of a key: replaced, or at the end -/
def dPutV (ks : List DK) (vs : List D) (x : DK) (y : D) : List D := if x ∈ ks then List.zipWith (fun k v => if k = x then y else v) ks vs else vs ++ [y]
def dPutK (ks : List DK) (x : DK) : List DK := if x ∈ ks then ks else ks ++ [x]
section
variable {K : PySem.W.Frag} {mg : Str → Option Value} {P H : Hp}
def keyK : DK → Key
  | .i n => .inl n
  | .s x => .inr (strV x)
  | .t _ => .inl 0
theorem keyK_inj {a b : DK} (ha : a.isT = false) (hb : b.isT = false) (h : keyK a = keyK b) : a = b := by
  cases a <;> cases b <;> simp_all [keyK, DK.isT]
  exact strV_inj h
theorem k0_inj {a b : Int ⊕ List Nat} (h : k0 a = k0 b) : a = b := by
  cases a <;> cases b <;> simp_all [k0]
  exact strV_inj h
theorem map_k0_inj : ∀ {a b : List (Int ⊕ List Nat)}, a.map k0 = b.map k0 → a = b
  | [], [], _ => rfl
  | [], _ :: _, h => by simp at h
  | _ :: _, [], h => by simp at h
  | x :: xs, y :: ys, h => by
    simp only [List.map_cons, List.cons.injEq] at h
    rw [k0_inj h.1, map_k0_inj h.2]
theorem KsK.is : ∀ {ks : List DK} {us : List Key}, KsK ks us → us = ks.map keyK ∧ ∀ k ∈ ks, k.isT = false
  | _, _, .nil => ⟨rfl, fun _ h => by cases h⟩
  | _, _, .i r => by
    obtain ⟨h1, h2⟩ := r.is
    subst h1
    exact ⟨rfl, fun k hk => (List.mem_cons.mp hk).elim (fun z => by rw [z]; rfl) (h2 k)⟩
  | _, _, .s r => by
    obtain ⟨h1, h2⟩ := r.is
    subst h1
    exact ⟨rfl, fun k hk => (List.mem_cons.mp hk).elim (fun z => by rw [z]; rfl) (h2 k)⟩
def keyT : DK → List Key
  | .t x => x.map k0
  | _ => []
theorem KsT.is : ∀ {ks : List DK} {us : List (List Key)}, KsT ks us → us = ks.map keyT ∧ ∀ k ∈ ks, k.isT = true
  | _, _, .nil => ⟨rfl, fun _ h => by cases h⟩
  | _, _, .t r => by
    obtain ⟨h1, h2⟩ := r.is
    subst h1
    exact ⟨rfl, fun k hk => (List.mem_cons.mp hk).elim (fun z => by rw [z]; rfl) (h2 k)⟩
theorem KsK.of : ∀ {ks : List DK}, (∀ k ∈ ks, k.isT = false) → KsK ks (ks.map keyK)
  | [], _ => .nil
  | .i n :: ks, h => .i (KsK.of fun k hk => h k (List.mem_cons_of_mem _ hk))
  | .s n :: ks, h => .s (KsK.of fun k hk => h k (List.mem_cons_of_mem _ hk))
  | .t n :: ks, h => absurd (h _ List.mem_cons_self) (by simp [DK.isT])
theorem KsT.of : ∀ {ks : List DK}, (∀ k ∈ ks, k.isT = true) → KsT ks (ks.map keyT)
  | [], _ => .nil
  | .i n :: ks, h => absurd (h _ List.mem_cons_self) (by simp [DK.isT])
  | .s n :: ks, h => absurd (h _ List.mem_cons_self) (by simp [DK.isT])
  | .t n :: ks, h => .t (KsT.of fun k hk => h k (List.mem_cons_of_mem _ hk))
theorem keyT_inj {a b : DK} (ha : a.isT = true) (hb : b.isT = true) (h : keyT a = keyT b) : a = b := by
  cases a <;> cases b <;> simp_all [keyT, DK.isT]
  exact map_k0_inj h
/-- what stands at a key -/
theorem look_gen {κ : Type} [DecidableEq κ] (kf : DK → κ) (x : DK) : ∀ {ks : List DK} {ds : List D} {kvs : List (κ × V)}, kvs.map (·.1) = ks.map kf → RepL K mg P ds (kvs.map (·.2)) → (∀ k ∈ ks, kf k = kf x → k = x) →
    (∀ d, dLook ks ds x = some d → ∃ v, valV kvs (kf x) = some v ∧ Rep K mg P d v) ∧ (dLook ks ds x = none → valV kvs (kf x) = none)
  | [], ds, [], h1, h2, hi => ⟨fun d h => by unfold dLook at h; simp at h, fun _ => rfl⟩
  | [], ds, _ :: _, h1, _, _ => by simp at h1
  | _ :: _, ds, [], h1, _, _ => by simp at h1
  | k :: ks, [], p :: kvs, h1, h2, _ => by simp only [List.map_cons] at h2; cases h2
  | k :: ks, d0 :: ds, p :: kvs, h1, h2, hi => by
    simp only [List.map_cons, List.cons.injEq] at h1 h2
    cases h2 with
    | cons r0 r =>
      have ih := look_gen kf x (ks := ks) (ds := ds) (kvs := kvs) h1.2 r fun k hk => hi k (List.mem_cons_of_mem _ hk)
      unfold dLook
      by_cases e : k = x
      · subst e
        rw [if_pos rfl, valV_pos h1.1]
        exact ⟨fun d h => ⟨_, rfl, by cases h; exact r0⟩, fun h => by cases h⟩
      · rw [if_neg e, valV_neg (fun z => e (hi k List.mem_cons_self (h1.1.symm.trans z)))]
        exact ih
theorem put_any {κ : Type} [DecidableEq κ] (kf : DK → κ) (x : DK) : ∀ {ks : List DK} {kvs : List (κ × V)}, kvs.map (·.1) = ks.map kf → (∀ k ∈ ks, kf k = kf x → k = x) → ((kvs.any fun kv => decide (kv.1 = kf x)) = true ↔ x ∈ ks)
  | [], [], _, _ => by simp
  | [], _ :: _, h1, _ => by simp at h1
  | _ :: _, [], h1, _ => by simp at h1
  | k :: ks, p :: kvs, h1, hi => by
    simp only [List.map_cons, List.cons.injEq] at h1
    rw [List.any_cons, Bool.or_eq_true, put_any kf x h1.2 (fun k hk => hi k (List.mem_cons_of_mem _ hk)), List.mem_cons, decide_eq_true_eq, h1.1]
    exact ⟨fun h => h.elim (fun z => .inl (hi k List.mem_cons_self z).symm) .inr, fun h => h.elim (fun z => .inl (by rw [z])) .inr⟩
theorem put_map {κ : Type} [DecidableEq κ] (kf : DK → κ) (x : DK) {d : D} {v : V} (rd : Rep K mg P d v) : ∀ {ks : List DK} {ds : List D} {kvs : List (κ × V)}, kvs.map (·.1) = ks.map kf → RepL K mg P ds (kvs.map (·.2)) → (∀ k ∈ ks, kf k = kf x → k = x) →
    (kvs.map fun kv => if kv.1 = kf x then (kv.1, v) else kv).map (·.1) = ks.map kf ∧ RepL K mg P (List.zipWith (fun k v => if k = x then d else v) ks ds) ((kvs.map fun kv => if kv.1 = kf x then (kv.1, v) else kv).map (·.2))
  | [], ds, [], _, h2, _ => ⟨rfl, .nil⟩
  | [], ds, _ :: _, h1, _, _ => by simp at h1
  | _ :: _, ds, [], h1, _, _ => by simp at h1
  | k :: ks, [], p :: kvs, h1, h2, _ => by simp only [List.map_cons] at h2; cases h2
  | k :: ks, d0 :: ds, p :: kvs, h1, h2, hi => by
    simp only [List.map_cons, List.cons.injEq] at h1 h2
    cases h2 with
    | cons r0 r =>
      obtain ⟨i1, i2⟩ := put_map kf x rd (ks := ks) (ds := ds) (kvs := kvs) h1.2 r fun k hk => hi k (List.mem_cons_of_mem _ hk)
      simp only [List.map_cons, List.zipWith_cons_cons]
      by_cases e : k = x
      · subst e
        rw [if_pos h1.1, if_pos rfl]
        exact ⟨by rw [i1, h1.1], .cons rd i2⟩
      · have ne : ¬ p.1 = kf x := fun z => e (hi k List.mem_cons_self (h1.1.symm.trans z))
        rw [if_neg ne, if_neg e]
        exact ⟨by rw [i1, h1.1], .cons r0 i2⟩
theorem put_gen {κ : Type} [DecidableEq κ] (kf : DK → κ) (x : DK) {d : D} {v : V} (rd : Rep K mg P d v) {ks : List DK} {ds : List D} {kvs : List (κ × V)} (h1 : kvs.map (·.1) = ks.map kf) (h2 : RepL K mg P ds (kvs.map (·.2))) (hi : ∀ k ∈ ks, kf k = kf x → k = x) :
    (putK kvs (kf x) v).map (·.1) = (dPutK ks x).map kf ∧ RepL K mg P (dPutV ks ds x d) ((putK kvs (kf x) v).map (·.2)) := by
  unfold putK dPutK dPutV
  by_cases e : x ∈ ks
  · rw [if_pos ((put_any kf x h1 hi).mpr e), if_pos e, if_pos e]
    exact put_map kf x rd h1 h2 hi
  · rw [if_neg (fun z => e ((put_any kf x h1 hi).mp z)), if_neg e, if_neg e]
    simp only [List.map_append, List.map_cons, List.map_nil]
    exact ⟨by rw [h1], h2.append (.cons rd .nil)⟩
/-- a key's value -/
theorem key_flat {d : D} {k : DK} {y : V} (h : d.key = some k) (n : k.isT = false) (r : RepW K mg P H d y) : y = kV (keyK k) := by
  cases r with
  | int i => cases h; rfl
  | str s hs => cases h; rfl
  | tup a b =>
    simp only [D.key] at h
    split at h <;> cases h
    simp [DK.isT] at n
  | _ => cases h
theorem atKs_rep : ∀ {ds : List D} {ks : List (Int ⊕ List Nat)} {vs : List V}, atKs ds = some ks → RepL K mg P ds vs → vs = (ks.map k0).map kV
  | [], _, _, h, .nil => by cases h; rfl
  | d :: ds, _, _, h, .cons r0 r => by
    unfold atKs at h
    cases e1 : atK d with
    | none => rw [e1] at h; cases h
    | some k =>
      rw [e1] at h
      cases e2 : atKs ds with
      | none => rw [e2] at h; cases h
      | some rr =>
        rw [e2] at h; cases h
        rw [atKs_rep e2 r]
        cases r0 with
        | int i => cases e1; rfl
        | str s hs => cases e1; rfl
        | _ => cases e1
theorem key_tup {d : D} {k : DK} {y : V} (e : Ex P H) (h : d.key = some k) (n : k.isT = true) (r : RepW K mg P H d y) : ∃ b, y = .ref b ∧ H b = some (.tup ((keyT k).map kV)) := by
  cases r with
  | int i => cases h; simp [DK.isT] at n
  | str s hs => cases h; simp [DK.isT] at n
  | tup a b =>
    simp only [D.key] at h
    split at h
    · rename_i ks hks
      cases h
      have := atKs_rep hks b
      subst this
      exact ⟨_, rfl, e _ _ a⟩
    · cases h
  | _ => cases h
/-- what a dict tells of a key -/
theorem dget_of {d : D} {k : DK} {ks : List DK} {ds : List D} {a : Addr} {y : V} (e : Ex P H) (hk : d.key = some k) (r : RepW K mg P H d y) (hd : RepW K mg P H (.dct k.isT ks ds) (.ref a)) :
    (∀ z, dLook ks ds k = some z → ∃ v, DGet H a y (some v) ∧ Rep K mg P z v) ∧ (dLook ks ds k = none → DGet H a y none) := by
  cases hb : k.isT with
  | false =>
    rw [hb] at hd
    cases hd with
    | dctK h hk' r' =>
      obtain ⟨e1, e2⟩ := hk'.is
      have := look_gen keyK k e1 r' fun z hz q => keyK_inj (e2 z hz) hb q
      rw [key_flat hk hb r]
      exact ⟨fun z hz => by
        obtain ⟨v, h1, h2⟩ := this.1 z hz
        exact ⟨v, .inl ⟨_, _, h, rfl, h1.symm⟩, h2⟩, fun hz => .inl ⟨_, _, h, rfl, (this.2 hz).symm⟩⟩
  | true =>
    rw [hb] at hd
    cases hd with
    | dctT h hk' r' =>
      obtain ⟨e1, e2⟩ := hk'.is
      obtain ⟨b, e3, e4⟩ := key_tup e hk hb r
      have := look_gen keyT k e1 r' fun z hz q => keyT_inj (e2 z hz) hb q
      exact ⟨fun z hz => by
        obtain ⟨v, h1, h2⟩ := this.1 z hz
        exact ⟨v, .inr ⟨_, _, b, h, e3, e4, h1.symm⟩, h2⟩, fun hz => .inr ⟨_, _, b, h, e3, e4, (this.2 hz).symm⟩⟩
/-- a key's value put -/
theorem dput_of {d : D} {k : DK} {ks : List DK} {ds : List D} {z : D} {a : Addr} {y v : V} (e : Ex P H) (hk : d.key = some k) (r : RepW K mg P H d y) (hd : Own K mg P H (.dct k.isT ks ds) a) (hl : ks.length < sizeLine) (rz : Rep K mg P z v) :
    ∃ o, DPut H a y v (upd H a o) ∧ Own K mg P (upd H a o) (.dct k.isT (dPutK ks k) (dPutV ks ds k z)) a := by
  cases hb : k.isT with
  | false =>
    rw [hb] at hd
    rcases hd with ⟨_, _, e0, _⟩ | ⟨ks', ds', kvs, e0, h, hk', r'⟩ | ⟨_, _, _, e0, _⟩
    · cases e0
    · cases e0
      obtain ⟨e1, e2⟩ := hk'.is
      obtain ⟨p1, p2⟩ := put_gen keyK k rz e1 r' fun z hz q => keyK_inj (e2 z hz) hb q
      rw [key_flat hk hb r]
      refine ⟨_, .inl ⟨_, _, h, rfl, by rw [← List.length_map (f := fun x : Key × V => x.1), e1, List.length_map]; exact hl, rfl⟩, .inr (.inl ⟨_, _, _, rfl, upd_same, ?_, p2⟩)⟩
      rw [p1]
      exact KsK.of fun x hx => by
        unfold dPutK at hx
        split at hx
        · exact e2 x hx
        · rcases List.mem_append.mp hx with h | h
          · exact e2 x h
          · have : x = k := by simpa using h
            rw [this]; exact hb
    · cases e0
  | true =>
    rw [hb] at hd
    rcases hd with ⟨_, _, e0, _⟩ | ⟨_, _, _, e0, _⟩ | ⟨ks', ds', kvs, e0, h, hk', r'⟩
    · cases e0
    · cases e0
    · cases e0
      obtain ⟨e1, e2⟩ := hk'.is
      obtain ⟨b, e3, e4⟩ := key_tup e hk hb r
      obtain ⟨p1, p2⟩ := put_gen keyT k rz e1 r' fun z hz q => keyT_inj (e2 z hz) hb q
      refine ⟨_, .inr ⟨_, _, b, h, e3, e4, by rw [← List.length_map (f := fun x : List Key × V => x.1), e1, List.length_map]; exact hl, rfl⟩, .inr (.inr ⟨_, _, _, rfl, upd_same, ?_, p2⟩)⟩
      rw [p1]
      exact KsT.of fun x hx => by
        unfold dPutK at hx
        split at hx
        · exact e2 x hx
        · rcases List.mem_append.mp hx with h | h
          · exact e2 x h
          · have : x = k := by simpa using h
            rw [this]; exact hb
end
end DL
end
section
set_option Elab.async false
set_option linter.all false
set_option maxRecDepth 100000
namespace DL
open PySem L2 Evl

section
variable {X : Cx} {W : WX} {En : Ent} {e a b c : Expr} {es : List Expr} {pos p2 apos cpos : Pos} {f fa fb fc : Ga → R (Res × Ga)} {g : Ga → R (List Res × Ga)}

/-! ### a[i] -/
def dIx (a i : D) : Option D := match a with
  | .lst xs => match i with
    | .int i => atI xs i
    | _ => none
  | .tup xs => match i with
    | .int i => atI xs i
    | _ => none
  | .scr xs => match i with
    | .int i => atI xs i
    | _ => none
  | .str s => match i with
    | .int i => (atI s i).map fun c => .str [c]
    | _ => none
  | .dct t ks vs => match i.key with
    | some k => if k.isT = t then dLook ks vs k else none
    | none => none
  | _ => none
def rIxD : R2 := fun x y H Q => ∃ a v, x = .ref a ∧ DGet H a y (some v) ∧ Q v H
theorem ix_dict (hu : X.A.units + 1 < cLine) : IxR X rIxD := by
  intro value slice pins s σ H x y v u Q I rx ry h hs
  obtain ⟨a, v', rfl, g, q⟩ := h
  obtain rfl : v = Value.ref a := rx
  exact PyProof.Rows.tail_any (ops := [.ref a, u]) (dict_typeIs I g) PySem.F.slot_dict_getitem.lookup (d_getItem hu I g ry fun w' s3 I3 rw' => ⟨v', H, I3, rw', q⟩) hs
def rIxA (X : Cx) : R2 := fun x y H Q => rIx X.K x y H Q ∨ rIxD x y H Q
theorem ix_all (hu : X.A.units + 1 < cLine) : IxR X (rIxA X) := ix_seq.or (ix_dict hu)
theorem RepL.atI {P : Hp} {ds : List D} {vs : List V} {i : Int} {d : D} (r : RepL X.K X.mg P ds vs) (h : L2.atI ds i = some d) : ∃ v, L2.atI vs i = some v ∧ Rep X.K X.mg P d v := by
  unfold L2.atI at h ⊢
  rw [← r.length]
  cases e : ixN ds.length i with
  | none => rw [e] at h; cases h
  | some j =>
    rw [e] at h
    exact r.get h
theorem os_ix : OpS X (rIxA X) dIx := fun P H x y a b d Q e h1 h2 hf q => by
  cases h1 with
  | lst h r =>
    cases h2 <;> simp only [dIx, reduceCtorEq] at hf
    obtain ⟨v, e1, e2⟩ := r.atI hf
    exact .inl (.inl ⟨_, _, _, v, rfl, rfl, .of h, e1, q _ _ _ (.here e) e2⟩)
  | tup h r =>
    cases h2 <;> simp only [dIx, reduceCtorEq] at hf
    obtain ⟨v, e1, e2⟩ := r.atI hf
    exact .inl (.inr (.inl ⟨_, _, _, v, rfl, rfl, .of (e _ _ h), e1, q _ _ _ (.here e) e2⟩))
  | scr h r =>
    cases h2 <;> simp only [dIx, reduceCtorEq] at hf
    obtain ⟨v, e1, e2⟩ := r.atI hf
    exact .inl (.inl ⟨_, _, _, v, rfl, rfl, ex_l e h, e1, q _ _ _ (.here e) e2⟩)
  | str s hs =>
    cases h2 <;> simp only [dIx, reduceCtorEq] at hf
    rename_i i
    cases e1 : L2.atI s i with
    | none => rw [e1] at hf; cases hf
    | some c =>
      rw [e1] at hf; cases hf
      exact .inl (.inr (.inr ⟨_, _, c, rfl, rfl, by rw [len_strV]; exact hs, by rw [cps_strV]; exact e1, q _ _ _ (.here e) (.str [c] (by show 1 ≤ sizeLine; rw [sizeLine_eq]; decide))⟩))
  | dctK h k r =>
    simp only [dIx] at hf
    cases e1 : b.key with
    | none => rw [e1] at hf; cases hf
    | some kk =>
      rw [e1] at hf
      simp only [Option.ite_none_right_eq_some] at hf
      obtain ⟨hb, hl⟩ := hf
      obtain ⟨v, e2, e3⟩ := (dget_of (K := X.K) (mg := X.mg) e e1 h2 (hb ▸ RepW.dctK h k r)).1 _ hl
      exact .inr ⟨_, v, rfl, e2, q _ _ _ (.here e) e3⟩
  | dctT h k r =>
    simp only [dIx] at hf
    cases e1 : b.key with
    | none => rw [e1] at hf; cases hf
    | some kk =>
      rw [e1] at hf
      simp only [Option.ite_none_right_eq_some] at hf
      obtain ⟨hb, hl⟩ := hf
      obtain ⟨v, e2, e3⟩ := (dget_of (K := X.K) (mg := X.mg) e e1 h2 (hb ▸ RepW.dctT h k r)).1 _ hl
      exact .inr ⟨_, v, rfl, e2, q _ _ _ (.here e) e3⟩
  | _ => cases hf
theorem ev_ix {r : R2} {F : D → D → Option D} (hr : IxR X r) (hs : OpS X r F) (ha : Ev X W En a fa) (hb : Ev X W En b fb) (hp : PlainIx b := by exact fun _ _ => rfl) : Ev X W En (.Subscript a b pos) (eOp2 F fa fb) := by
  obtain ⟨ta, pa, ha⟩ := ha
  obtain ⟨tb, pb, hb⟩ := hb
  refine ⟨_, pe_ix hr pa pb hp, fun σ H P γ Q S q => two_go (rep := repE X) (k := fun a b γ2 => ofO (F a b) >>= fun d => .ok (.val d, γ2)) ha hb hrepE S q fun P2 H2 γ2 a b x y S2 r1 r2 q2 => ?_⟩
  rcases ofO_cases (F a b) with ⟨d, e, e'⟩ | e
  · rw [e', R.ok_bind] at q2
    exact hs P2 H2 x y a b d Q S2.sub r1 r2 e fun v H' P' g r => q2.val S2 g r
  · rw [e] at q2; exact q2.elim

/-! ### in, of dicts too -/
def dKey (a b : D) : Option Bool := match b with
  | .dct t ks vs => match a.key with
    | some k => if k.isT = t then some (dLook ks vs k).isSome else none
    | none => none
  | _ => dInB a b
def dMem (a b : D) : Option D := (dKey a b).map .bl
def dNotMem (a b : D) : Option D := (dKey a b).map fun x => .bl (!x)
def rInD (neg : Bool) : R2 := fun x y H Q => ∃ a o, y = .ref a ∧ DGet H a x o ∧ Q (.bl (if neg then !o.isSome else o.isSome)) H
theorem op_inD (hu : X.A.units + 1 < cLine) : OpR X (compareOp .In) (rInD false) := by
  rintro pins s σ H x y v u Q I rx ry ⟨a, o, rfl, g, q⟩
  obtain rfl : u = Value.ref a := ry
  exact d_in hu I g rx fun s' I' => ⟨.bl _, H, I', rfl, q⟩
theorem op_notInD (hu : X.A.units + 1 < cLine) : OpR X (compareOp .NotIn) (rInD true) := by
  rintro pins s σ H x y v u Q I rx ry ⟨a, o, rfl, g, q⟩
  obtain rfl : u = Value.ref a := ry
  exact d_notIn hu I g rx fun s' I' => ⟨.bl _, H, I', rfl, q⟩
def rMem (X : Cx) (neg : Bool) : R2 := fun x y H Q => rInP X neg x y H Q ∨ rInD neg x y H Q
theorem hu1 {A : Around} (hu : A.units + 64 < cLine) : A.units + 1 < cLine := by omega
theorem op_mem (hu : X.A.units + 64 < cLine) : OpR X (compareOp .In) (rMem X false) := (op_inP hu).or (op_inD (hu1 hu))
theorem op_notMem (hu : X.A.units + 64 < cLine) : OpR X (compareOp .NotIn) (rMem X true) := (op_notInP hu).or (op_notInD (hu1 hu))
theorem mem_go {neg : Bool} {P H : Hp} {x y : V} {a b : D} {r : Bool} {Q : VK} (e : Ex P H) (h1 : RepW X.K X.mg P H a x) (h2 : RepW X.K X.mg P H b y) (hr : dKey a b = some r) (q : Q (.bl (if neg then !r else r)) H) : rMem X neg x y H Q := by
  have old : dInB a b = some r → rMem X neg x y H Q := fun hr => .inl ⟨P, a, b, r, e, h1, h2, hr, q⟩
  cases h2 with
  | dctK h k r' =>
    simp only [dKey] at hr
    cases e1 : a.key with
    | none => rw [e1] at hr; cases hr
    | some kk =>
      rw [e1] at hr
      simp only [Option.ite_none_right_eq_some, Option.some.injEq] at hr
      obtain ⟨hb, hl⟩ := hr
      have := dget_of (K := X.K) (mg := X.mg) e e1 h1 (hb ▸ RepW.dctK h k r')
      cases e2 : dLook _ _ kk with
      | none => rw [e2] at hl; subst hl; exact .inr ⟨_, none, rfl, this.2 e2, q⟩
      | some z => rw [e2] at hl; subst hl; obtain ⟨v, g, _⟩ := this.1 z e2; exact .inr ⟨_, some v, rfl, g, q⟩
  | dctT h k r' =>
    simp only [dKey] at hr
    cases e1 : a.key with
    | none => rw [e1] at hr; cases hr
    | some kk =>
      rw [e1] at hr
      simp only [Option.ite_none_right_eq_some, Option.some.injEq] at hr
      obtain ⟨hb, hl⟩ := hr
      have := dget_of (K := X.K) (mg := X.mg) e e1 h1 (hb ▸ RepW.dctT h k r')
      cases e2 : dLook _ _ kk with
      | none => rw [e2] at hl; subst hl; exact .inr ⟨_, none, rfl, this.2 e2, q⟩
      | some z => rw [e2] at hl; subst hl; obtain ⟨v, g, _⟩ := this.1 z e2; exact .inr ⟨_, some v, rfl, g, q⟩
  | _ => exact old hr
theorem os_mem : OpS X (rMem X false) dMem := fun P H x y a b d Q e h1 h2 hf q => by
  unfold dMem at hf
  cases hr : dKey a b with
  | none => rw [hr] at hf; cases hf
  | some r => rw [hr] at hf; cases hf; exact mem_go e h1 h2 hr (q _ _ _ (.here e) (.bl _))
theorem os_notMem : OpS X (rMem X true) dNotMem := fun P H x y a b d Q e h1 h2 hf q => by
  unfold dNotMem at hf
  cases hr : dKey a b with
  | none => rw [hr] at hf; cases hf
  | some r => rw [hr] at hf; cases hf; exact mem_go e h1 h2 hr (q _ _ _ (.here e) (.bl _))

/-! ### slices -/
def cutL {α : Type} (xs : List α) (lo hi : Option Int) : List α := (xs.drop (HT.sIx xs.length 0 lo)).take (HT.sIx xs.length xs.length hi - HT.sIx xs.length 0 lo)
/-- a slice's part -/
def oNone : Ga → R (Option Int × Ga) := fun γ => .ok (none, γ)
def oSome (f : Ga → R (Res × Ga)) : Ga → R (Option Int × Ga) := fun γ => f γ >>= fun p => match p.1 with
  | .val (.int i) => .ok (some i, p.2)
  | _ => .no
abbrev repO : Hp → Hp → Hp → L2.St → Option Int → Option Int → Prop := fun _ _ _ _ a b => a = b
def EvO (X : Cx) (W : WX) (En : Ent) (e : Option Expr) (f : Ga → R (Option Int × Ga)) : Prop :=
  ∃ t, PO X e t ∧ ∀ σ H P γ Q, Sat X.K X.mg En P σ H γ → PostG X W En repO σ P H γ Q (f γ) → t σ H Q
theorem eo_none : EvO X W En none oNone := ⟨_, po_none, fun σ H P γ Q S q => q none H P S .refl rfl⟩
theorem eo_some (h : Ev X W En e f) : EvO X W En (some e) (oSome f) := by
  obtain ⟨t, p, h⟩ := h
  refine ⟨_, po_some p, fun σ H P γ Q S q => h σ H P γ _ S ?_⟩
  unfold oSome at q
  cases e : f γ with
  | no => rw [e] at q; exact q
  | exc c => rw [e] at q; exact q
  | ok r =>
    obtain ⟨r, γ'⟩ := r
    rw [e, R.ok_bind] at q
    intro v H' P' S' T' rv
    cases r with
    | cell i => exact q.elim
    | val d =>
      cases d with
      | int b => cases rv; exact ⟨b, rfl, q _ H' P' S' T' rfl⟩
      | _ => exact q.elim
def dSl (a : D) (lo hi : Option Int) : Option D := match a with
  | .lst xs => some (.lst (cutL xs lo hi))
  | .tup xs => some (.tup (cutL xs lo hi))
  | .str s => some (.str (cutL s lo hi))
  | .scr xs => some (.lst (cutL xs lo hi))
  | _ => none
def rSlAll (X : Cx) : V → Option Int → Option Int → Hp → VK → Prop := fun x lo hi H Q => (rSlL X.K x lo hi H Q ∨ L2.rSlS x lo hi H Q) ∨ rSlA X.K x lo hi H Q
theorem sl_all : SlR X (rSlAll X) := (sl_list.or sl_str).or sl_tupA
theorem cutS_strV (s : List Nat) (lo hi : Option Int) : cutS (strV s) lo hi = strV (cutL s lo hi) := by
  unfold cutS cutL
  rw [len_strV, cps_strV]; rfl
theorem cutL_len {α : Type} (xs : List α) (lo hi : Option Int) : (cutL xs lo hi).length ≤ xs.length := by
  unfold cutL; rw [List.length_take, List.length_drop]; omega
theorem RepL.cut {P : Hp} {ds : List D} {vs : List V} (r : RepL X.K X.mg P ds vs) (lo hi : Option Int) : RepL X.K X.mg P (cutL ds lo hi) (cutV vs lo hi) := by
  unfold cutL cutV; rw [r.length]; exact (r.drop _).take _
theorem sl_go {P H : Hp} {x : V} {a d : D} {lo hi : Option Int} {Q : VK} (e : Ex P H) (h1 : RepW X.K X.mg P H a x) (hf : dSl a lo hi = some d) (q : ∀ v H' P', Gr P H P' H' → Rep X.K X.mg P' d v → Q v H') : rSlAll X x lo hi H Q := by
  cases h1 with
  | lst h r =>
    cases hf
    exact .inl (.inl ⟨_, _, rfl, .of h, fun p n => q _ _ _ (.add e n) (.lst upd_same ((r.cut lo hi).mono (Ex.new (fresh_back e n))))⟩)
  | scr h r =>
    cases hf
    exact .inl (.inl ⟨_, _, rfl, ex_l e h, fun p n => q _ _ _ (.add e n) (.lst upd_same ((r.cut lo hi).mono (Ex.new (fresh_back e n))))⟩)
  | str s hs =>
    cases hf
    refine .inl (.inr ⟨_, rfl, by rw [len_strV]; exact hs, ?_⟩)
    rw [cutS_strV]
    exact q _ _ _ (.here e) (.str _ (Nat.le_trans (cutL_len _ _ _) hs))
  | @tup a ds vs h r =>
    cases hf
    refine .inr ⟨_, _, rfl, .of (e _ _ h), fun z => ?_, fun z p n => q _ _ _ (.add e n) (.tup upd_same ((r.cut lo hi).mono (Ex.new (fresh_back e n))))⟩
    have : cutL ds lo hi = ds := by
      show (List.drop _ _).take _ = _
      rw [r.length, z.1, z.2, List.drop_zero, Nat.sub_zero, ← r.length, List.take_length]
    rw [this] at q
    exact q _ _ _ (.here e) (.tup h r)
  | _ => cases hf
def eSl (fa : Ga → R (Res × Ga)) (fl fh : Ga → R (Option Int × Ga)) : Ga → R (Res × Ga) := fun γ => fa γ >>= fun p => fl p.2 >>= fun l => fh l.2 >>= fun h => deref h.2 p.1 >>= fun a => ofO (dSl a l.1 h.1) >>= fun d => .ok (.val d, h.2)
theorem ev_sl {lo hi : Option Expr} {fl fh : Ga → R (Option Int × Ga)} (ha : Ev X W En a fa) (hl : EvO X W En lo fl) (hh : EvO X W En hi fh) : Ev X W En (.Subscript a (.Slice lo hi none p2) pos) (eSl fa fl fh) := by
  obtain ⟨ta, pa, ha⟩ := ha
  obtain ⟨tl, pl, hl⟩ := hl
  obtain ⟨th, ph, hh⟩ := hh
  refine ⟨_, pe_slice sl_all pa pl ph, fun σ H P γ Q S q => ha σ H P γ _ S ?_⟩
  unfold eSl at q
  cases ea : fa γ with
  | no => rw [ea] at q; exact q
  | exc c => rw [ea] at q; exact q
  | ok r =>
    obtain ⟨ra, γ1⟩ := r
    rw [ea, R.ok_bind] at q
    intro x H1 P1 S1 T1 r1
    have q1 := PostG.later T1 (fun _ _ _ _ _ h => h) q
    refine hl σ H1 P1 γ1 _ S1 ?_
    cases el : fl γ1 with
    | no => rw [el] at q1; exact q1
    | exc c => rw [el] at q1; exact q1
    | ok r =>
      obtain ⟨l, γ2⟩ := r
      rw [el, R.ok_bind] at q1
      rintro l' H2 P2 S2 T2 rfl
      have q2 := PostG.later T2 (fun _ _ _ _ _ h => h) q1
      refine hh σ H2 P2 γ2 _ S2 ?_
      cases eh : fh γ2 with
      | no => rw [eh] at q2; exact q2
      | exc c => rw [eh] at q2; exact q2
      | ok r =>
        obtain ⟨h, γ3⟩ := r
        rw [eh, R.ok_bind] at q2
        rintro h' H3 P3 S3 T3 rfl
        have q3 := PostG.later T3 (fun _ _ _ _ _ h => h) q2
        change PostG X W En (repE X) σ P3 H3 γ3 Q (deref γ3 ra >>= fun a => ofO (dSl a l h) >>= fun d => .ok (.val d, γ3)) at q3
        rcases deref_cases γ3 ra with ⟨da, e1⟩ | e1
        · rw [e1, R.ok_bind] at q3
          rcases ofO_cases (dSl da l h) with ⟨d, e, e'⟩ | e
          · rw [e', R.ok_bind] at q3
            exact sl_go S3.sub (S3.w ((r1.mono T2.ph).mono T3.ph) e1) e fun v H' P' g r => q3.val S3 g r
          · rw [e] at q3; exact q3.elim
        · rw [e1] at q3; exact q3.elim

/-! ### methods of built-in types -/
/-- what a value is -/
def D.ty : D → String
  | .str _ => "str"
  | .int _ => "int"
  | .lst _ => "list"
  | .scr _ => "list"
  | .tup _ => "tuple"
  | _ => ""
def MetS (X : Cx) (r : V → List V → Hp → VK → Prop) (F : D → List D → Option D) : Prop := ∀ P H x xs a as d Q, Ex P H → RepW X.K X.mg P H a x → RepWs X.K X.mg P H as xs → F a as = some d →
  (∀ v H' P', Gr P H P' H' → Rep X.K X.mg P' d v → Q v H') → r x xs H Q
theorem ty_of {P H : Hp} {d : D} {x : V} {T : String} (e : Ex P H) (h : RepW X.K X.mg P H d x) (ht : d.ty = T) (h0 : T ≠ "" ∧ T ≠ "tuple") : tyV X.K T x H := by
  subst ht
  cases h with
  | non => exact absurd rfl h0.1
  | bl b => exact absurd rfl h0.1
  | fn h => exact absurd rfl h0.1
  | int i => rfl
  | str s hs => rfl
  | lst h r => exact .inl ⟨rfl, _, .of h⟩
  | scr h r => exact .inl ⟨rfl, _, ex_l e h⟩
  | tup h r => exact absurd rfl h0.2
  | dctK h k r => exact absurd rfl h0.1
  | dctT h k r => exact absurd rfl h0.1
def eMet0 (T : String) (F : D → List D → Option D) (fo : Ga → R (Res × Ga)) : Ga → R (Res × Ga) := fun γ => fo γ >>= fun p => deref p.2 p.1 >>= fun a => if a.ty = T then ofO (F a []) >>= fun d => .ok (.val d, p.2) else .no
def eMet (T : String) (F : D → List D → Option D) (fo : Ga → R (Res × Ga)) (g : Ga → R (List Res × Ga)) : Ga → R (Res × Ga) := fun γ => fo γ >>= fun p => deref p.2 p.1 >>= fun a => if a.ty = T then
  g p.2 >>= fun q => deref q.2 p.1 >>= fun a => derefs q.2 q.1 >>= fun as => ofO (F a as) >>= fun d => .ok (.val d, q.2) else .no
variable {T id : String} {name : Str} {r : V → List V → Hp → VK → Prop} {F : D → List D → Option D} {o : Expr}
theorem ev_met0 (pa : PlainAttrs T) (slot : Slot T name id) (hty : typeOf (.builtin id) = pure (.type "method_descriptor")) (hm : MtR X id r) (hs : MetS X r F) (ho : Ev X W En o fa) (h0 : T ≠ "" ∧ T ≠ "tuple" := by decide)
    (hbase : attributeBase o name X.env (eval o X.env) = eval o X.env := by rfl) (hline : (apos.endLine == cpos.line) = true := by rfl) : Ev X W En (.Call (.Attribute o name apos) [] [] cpos) (eMet0 T F fa) := by
  obtain ⟨t, p, h⟩ := ho
  refine ⟨_, pe_bm0 pa slot hty hm p hbase hline, fun σ H P γ Q S q => one_go (rep := repE X) (k := fun a γ2 => if a.ty = T then ofO (F a []) >>= fun d => .ok (.val d, γ2) else .no) h hrepE S q fun P2 H2 γ2 a x S2 r1 q2 => ?_⟩
  split at q2
  · rename_i ht
    refine ⟨ty_of S2.sub r1 ht h0, ?_⟩
    rcases ofO_cases (F a []) with ⟨d, e, e'⟩ | e
    · rw [e', R.ok_bind] at q2
      exact hs P2 H2 x [] a [] d Q S2.sub r1 .nil e fun v H' P' g r => q2.val S2 g r
    · rw [e] at q2; exact q2.elim
  · exact q2.elim
theorem ev_met (pa : PlainAttrs T) (slot : Slot T name id) (hty : typeOf (.builtin id) = pure (.type "method_descriptor")) (hm : MtR X id r) (hs : MetS X r F) (ho : Ev X W En o fa) (ha : EvA X W En (e :: es) g) (h0 : T ≠ "" ∧ T ≠ "tuple" := by decide)
    (hbase : attributeBase o name X.env (eval o X.env) = eval o X.env := by rfl)
    (hfew : ((backTo cpos (starEach (e :: es) X.env)).all (fun x => !x.1) && (backToKw cpos (keywordEach [] X.env)).all (fun x => x.1.isSome)
      && decide ((e :: es).length + ([] : List Keyword).length + (if ([] : List Keyword).isEmpty then 0 else 1) < 30)) = true := by rfl)
    (hline : (apos.endLine == cpos.line) = true := by rfl) (hs' : starEach (e :: es) X.env = (false, eval e X.env) :: starEach es X.env := by rfl) (hplain : (backTo cpos (starEach es X.env)).any (·.1) = false := by rfl) :
    Ev X W En (.Call (.Attribute o name apos) (e :: es) [] cpos) (eMet T F fa g) := by
  obtain ⟨t, p, h⟩ := ho
  obtain ⟨ta, pa', ha⟩ := ha
  refine ⟨_, pe_bm pa slot hty hm p pa' hbase hfew hline hs' hplain, fun σ H P γ Q S q => h σ H P γ _ S ?_⟩
  unfold eMet at q
  cases ea : fa γ with
  | no => rw [ea] at q; exact q
  | exc c => rw [ea] at q; exact q
  | ok r =>
    obtain ⟨ra, γ1⟩ := r
    rw [ea, R.ok_bind] at q
    intro x H1 P1 S1 T1 r1
    have q1 := PostG.later T1 (fun _ _ _ _ _ h => h) q
    rcases deref_cases γ1 ra with ⟨da, e1⟩ | e1
    · rw [e1, R.ok_bind] at q1
      split at q1
      · rename_i ht
        refine ⟨ty_of S1.sub (S1.w r1 e1) ht h0, ?_⟩
        exact args_go (rep := repE X) (k := fun rs γ => deref γ ra >>= fun a => derefs γ rs >>= fun as => ofO (F a as) >>= fun d => .ok (.val d, γ)) ha hrepE S1 q1 fun P2 H2 γ2 rs vs S2 T2 r q2 => by
          rcases deref_cases γ2 ra with ⟨da, e1⟩ | e1
          · rw [e1, R.ok_bind] at q2
            rcases derefs_cases γ2 rs with ⟨ds, e⟩ | e
            · rw [e, R.ok_bind] at q2
              rcases ofO_cases (F da ds) with ⟨d, e2, e'⟩ | e2
              · rw [e', R.ok_bind] at q2
                exact hs P2 H2 x vs da ds d Q S2.sub (S2.w (r1.mono T2.ph) e1) (S2.ws r e) e2 fun v H' P' g r => q2.val S2 g r
              · rw [e2] at q2; exact q2.elim
            · rw [e] at q2; exact q2.elim
          · rw [e1] at q2; exact q2.elim
      · exact q1.elim
    · rw [e1] at q1; exact q1.elim
end
end DL
end
section
set_option Elab.async false
set_option linter.all false
set_option maxRecDepth 100000
namespace DL
open PySem L2 Evl

section
variable {K : PySem.W.Frag} {mg : Str → Option Value} {En : Ent} {P P1 H H1 : Hp} {σ : L2.St} {γ γ1 : Ga}
theorem set_get {α : Type} {l : List α} {i j : Nat} {x y : α} (h : (l.set i x)[j]? = some y) : (j = i ∧ y = x) ∨ (j ≠ i ∧ l[j]? = some y) := by
  by_cases e : i = j
  · subst e
    rw [List.getElem?_set] at h
    rw [if_pos rfl] at h
    split at h
    · cases h; exact .inl ⟨rfl, rfl⟩
    · cases h
  · rw [List.getElem?_set_ne e] at h
    exact .inr ⟨Ne.symm e, h⟩
/-- a slot's object is changed -/
theorem Sat.mut (S : Sat K mg En P σ H γ) {i : Nat} {d d' : D} {a : Addr} {o : HO} (hi : γ[i]? = some (.mu d)) (hσ : σ[i]? = some (some (.ref a))) (ho : Own K mg P (upd H a o) d' a) :
    Sat K mg En P σ (upd H a o) (γ.set i (.mu d')) ∧ Stp En.T σ γ P H (γ.set i (.mu d')) P (upd H a o) := by
  obtain ⟨a', h1, n, hown, hm⟩ := S.mu i d hi
  rw [hσ] at h1; cases h1
  obtain ⟨u, hu, mu, hx, _⟩ := hown.obj
  have nP : ∀ b o, P b = some o → b ≠ a := fun b o e z => by rw [z, n] at e; cases e
  refine ⟨⟨fun b u e => by rw [upd_ne (nP b u e)]; exact S.sub b u e, by simpa using S.len, S.old, fun b h => ?_, fun b u e nm => ?_, fun b e => ?_, tabs_upd S.tab hu mu hx, S.tabP, fun j d2 e => ?_, fun j d2 e => ?_, fun j k d2 d3 hjk e1 e2 => ?_⟩,
    Ex.refl P, fun _ h => .inl h, fun b u e nm => ?_, fun b e => ?_, fun b hb => ?_, fun b xs e => ?_⟩
  · rcases S.new b h with h | h | ⟨xs, h⟩
    · exact .inl h
    · exact .inr (.inl h)
    · have : b ≠ a := fun z => by rw [z, hu] at h; cases h; exact mu
      exact .inr (.inr ⟨xs, by rw [upd_ne this]; exact h⟩)
  · have : b ≠ a := fun z => by
      rcases hm with ⟨h3, h4⟩ | ⟨h3, h4⟩
      · exact nm (.inl ⟨i, h3, by rw [← h4, hσ, z]⟩)
      · rw [z, h4] at e; cases e
    rw [upd_ne this]; exact S.keep b u e nm
  · by_cases z : b = a
    · rw [z, upd_same]; simp
    · rw [upd_ne z]; exact S.dom b e
  · rcases set_get e with ⟨_, z⟩ | ⟨_, e⟩
    · cases z
    · exact S.pu j d2 e
  · rcases set_get e with ⟨rfl, z⟩ | ⟨hj, e⟩
    · cases z; exact ⟨a, hσ, n, ho, hm⟩
    · obtain ⟨b, g1, g2, g3, g4⟩ := S.mu j d2 e
      have : b ≠ a := fun z => S.ne j i d2 d hj e hi (by rw [g1, hσ, z])
      exact ⟨b, g1, g2, g3.mono (Ex.refl P) fun o q => by rw [upd_ne this]; exact q, g4⟩
  · have old : ∀ {j : Nat} {d2 : D}, (γ.set i (Sl.mu d'))[j]? = some (Sl.mu d2) → ∃ d3 : D, γ[j]? = some (Sl.mu d3) := fun {j d2} e => by
      rcases set_get e with ⟨rfl, _⟩ | ⟨_, e⟩
      · exact ⟨d, hi⟩
      · exact ⟨d2, e⟩
    obtain ⟨x1, e1⟩ := old e1
    obtain ⟨x2, e2⟩ := old e2
    exact S.ne j k _ _ hjk e1 e2
  · have : b ≠ a := fun z => nm (.inl ⟨i, d, hi, z ▸ hσ⟩)
    rw [upd_ne this]; exact e
  · by_cases z : b = a
    · rw [z, upd_same]; simp
    · rw [upd_ne z]; exact e
  · rcases hb with ⟨j, d2, e1, e2⟩ | hb
    · rcases set_get e1 with ⟨rfl, _⟩ | ⟨_, e1⟩
      · exact .inl ⟨_, d, hi, e2⟩
      · exact .inl ⟨j, d2, e1, e2⟩
    · exact .inr hb
  · have : b ≠ a := fun z => by rw [z, hu] at e; cases e; exact mu
    rw [upd_ne this]; exact e
/-- a slot's object is given over: it does not change any more -/
theorem Sat.freeze (S : Sat K mg En P σ H γ) {i : Nat} {d : D} {a : Addr} {u : HO} (hi : γ[i]? = some (.mu d)) (hm : i ∉ En.ms) (h1 : σ[i]? = some (some (.ref a))) (hu : H a = some u) (o : Obj) :
    Sat K mg En (upd P a (lockAt o u)) σ (upd H a (lockAt o u)) (γ.set i (.pu d)) ∧ Stp En.T σ γ P H (γ.set i (.pu d)) (upd P a (lockAt o u)) (upd H a (lockAt o u)) ∧ Rep K mg (upd P a (lockAt o u)) d (.ref a) := by
  obtain ⟨a', h1', n, hown, hm'⟩ := S.mu i d hi
  rw [h1] at h1'; cases h1'
  obtain ⟨u', hu', mu, hx, _⟩ := hown.obj
  rw [hu] at hu'; cases hu'
  have h0 : En.H0 a = none := by
    rcases hm' with ⟨h3, _⟩ | ⟨_, h4⟩
    · exact absurd h3 hm
    · exact h4
  have li : i < σ.length := by
    have := (List.getElem?_eq_some_iff.mp hi).1
    rw [S.len]; exact this
  have nT : a ∉ En.T.map (·.1) := fun z => by
    obtain ⟨p, hp, e⟩ := List.mem_map.mp z
    obtain ⟨ps, h2, _⟩ := S.tab p hp
    rw [e, hu] at h2; cases h2; exact mu
  -- first the slot is forgotten, then what it holds is given over
  have S1 : Sat K mg En P σ H (γ.set i .un) := by
    refine ⟨S.sub, by simpa using S.len, S.old, S.new, S.keep, S.dom, S.tab, S.tabP, fun j d2 q => ?_, fun j d2 q => ?_, fun j k d2 d3 hjk e1 e2 => ?_⟩
    · rcases set_get q with ⟨_, z⟩ | ⟨_, q⟩
      · cases z
      · exact S.pu j d2 q
    · rcases set_get q with ⟨_, z⟩ | ⟨_, q⟩
      · cases z
      · exact S.mu j d2 q
    · rcases set_get e1 with ⟨_, z⟩ | ⟨_, e1⟩
      · cases z
      · rcases set_get e2 with ⟨_, z⟩ | ⟨_, e2⟩
        · cases z
        · exact S.ne j k d2 d3 hjk e1 e2
  have nm : ¬ MuAt En.T σ (γ.set i .un) a := fun z => by
    rcases z with ⟨j, d2, e1, e2⟩ | z
    · rcases set_get e1 with ⟨_, z⟩ | ⟨hj, e1⟩
      · cases z
      · exact S.ne j i d2 d hj e1 hi (by rw [e2, h1])
    · exact nT z
  have S2 := S1.give (w := lockAt o u) n h0 nm hu mu hx
  have rd := hown.give n hu o
  refine ⟨?_, ⟨Ex.new n, fun b q => ?_, fun b o' q nm' => ?_, fun b q => ?_, fun b hb => ?_, fun b xs q => ?_⟩, rd⟩
  · refine ⟨S2.sub, by simpa using S.len, S2.old, S2.new, S2.keep, S2.dom, S2.tab, S2.tabP, fun j d2 q => ?_, fun j d2 q => ?_, fun j k d2 d3 hjk e1 e2 => ?_⟩
    · rcases set_get q with ⟨rfl, z⟩ | ⟨hj, q⟩
      · cases z; exact ⟨_, h1, rd⟩
      · exact S2.pu j d2 (by rw [List.getElem?_set_ne (Ne.symm hj)]; exact q)
    · rcases set_get q with ⟨_, z⟩ | ⟨hj, q⟩
      · cases z
      · exact S2.mu j d2 (by rw [List.getElem?_set_ne (Ne.symm hj)]; exact q)
    · rcases set_get e1 with ⟨_, z⟩ | ⟨_, e1⟩
      · cases z
      · rcases set_get e2 with ⟨_, z⟩ | ⟨_, e2⟩
        · cases z
        · exact S.ne j k d2 d3 hjk e1 e2
  · by_cases z : b = a
    · subst z; exact .inr (.inr (.inl (.inl ⟨i, d, hi, h1⟩)))
    · rw [upd_ne z] at q; exact .inl q
  · have : b ≠ a := fun z => nm' (.inl ⟨i, d, hi, z ▸ h1⟩)
    rw [upd_ne this]; exact q
  · by_cases z : b = a
    · rw [z, upd_same]; simp
    · rw [upd_ne z]; exact q
  · rcases hb with ⟨j, d2, e1, e2⟩ | hb
    · rcases set_get e1 with ⟨_, z⟩ | ⟨_, e1⟩
      · cases z
      · exact .inl ⟨j, d2, e1, e2⟩
    · exact .inr hb
  · have : b ≠ a := fun z => by rw [z, hu] at q; cases q; exact mu
    rw [upd_ne this]; exact q
end

section
variable {X : Cx} {W : WX} {En : Ent} {e a b c : Expr} {es : List Expr} {pos p1 p2 apos cpos : Pos} {f fa fb fc : Ga → R (Res × Ga)} {g : Ga → R (List Res × Ga)}
/-- a name read for good: what it holds does not change any more -/
def eFz (i : Nat) : Ga → R (Res × Ga) := fun γ => match γ[i]? with
  | some (.pu d) => .ok (.val d, γ)
  | some (.mu d) => .ok (.val d, γ.set i (.pu d))
  | _ => .no
/-- the value is locked, or not -/
theorem pe_fzq {t : TE} (h : PE X e t) : PE X e (fun σ H Q => t σ H fun v H' => FzV v H' Q ∨ Q v H') := ⟨fun pins s σ H Q I q =>
  thn (h.run pins s σ H _ I q) fun u s1 ⟨v, H1, I1, r, q1⟩ => q1.elim (fun q1 =>
    let ⟨H2, I2, q2⟩ := fz_inv I1 q1
    ⟨v, H2, I2, r, q2⟩) fun q1 => ⟨v, H1, I1, r, q1⟩⟩
theorem ev_fz {i : Nat} {x : Str} (hp : PE X (.Name x pos) (tVar i)) (hm : i ∉ En.ms) : Ev X W En (.Name x pos) (eFz i) := by
  refine ⟨_, pe_fzq hp, fun σ H P γ Q S q => ?_⟩
  unfold eFz at q
  cases g : γ[i]? with
  | none => simp [g, PostK] at q
  | some s =>
    cases s with
    | un => simp [g, PostK] at q
    | pu d =>
      simp only [g] at q
      obtain ⟨v, h1, h2⟩ := S.pu i d g
      exact ⟨v, h1, .inr (q v H P S .refl h2)⟩
    | mu d =>
      simp only [g] at q
      obtain ⟨a, h1, h2, h3, _⟩ := S.mu i d g
      obtain ⟨u, hu, mu, hx, hk⟩ := h3.obj
      refine ⟨_, h1, .inl ⟨a, u, rfl, hu, hk, fun o => ?_⟩⟩
      obtain ⟨S', T', rd⟩ := S.freeze g hm h1 hu o
      exact q _ _ _ S' T' rd

/-! ### methods that change a slot's object -/
def MutW (X : Cx) (r : V → List V → Hp → VK → Prop) (F : D → List D → Option (D × D)) : Prop := ∀ P H l xs a as ret new Q, Ex P H → P l = none → Own X.K X.mg P H a l → RepWs X.K X.mg P H as xs → F a as = some (ret, new) →
  (∀ v o, Own X.K X.mg P (upd H l o) new l → Rep X.K X.mg P ret v → Q v (upd H l o)) → r (.ref l) xs H Q
def MutV (X : Cx) (r : V → List V → Hp → VK → Prop) (F : D → List D → Option (D × D)) : Prop := ∀ P H l xs a as ret new Q, Ex P H → P l = none → Own X.K X.mg P H a l → RepL X.K X.mg P as xs → F a as = some (ret, new) →
  (∀ v o, Own X.K X.mg P (upd H l o) new l → Rep X.K X.mg P ret v → Q v (upd H l o)) → r (.ref l) xs H Q
def muAt (γ : Ga) (i : Nat) : R D := match γ[i]? with
  | some (.mu d) => .ok d
  | _ => .no
theorem muAt_cases (γ : Ga) (i : Nat) : (∃ d, muAt γ i = .ok d ∧ γ[i]? = some (.mu d)) ∨ muAt γ i = .no := by
  unfold muAt
  cases h : γ[i]? with
  | none => exact .inr rfl
  | some s =>
    cases s with
    | mu d => exact .inl ⟨d, rfl, rfl⟩
    | _ => exact .inr rfl
def eMut0 (T : String) (i : Nat) (F : D → List D → Option (D × D)) : Ga → R (Res × Ga) := fun γ => muAt γ i >>= fun a => if a.ty = T then ofO (F a []) >>= fun p => .ok (.val p.1, γ.set i (.mu p.2)) else .no
def eMutW (T : String) (i : Nat) (F : D → List D → Option (D × D)) (g : Ga → R (List Res × Ga)) : Ga → R (Res × Ga) := fun γ => muAt γ i >>= fun a => if a.ty = T then
  g γ >>= fun q => muAt q.2 i >>= fun a => derefs q.2 q.1 >>= fun as => ofO (F a as) >>= fun p => .ok (.val p.1, q.2.set i (.mu p.2)) else .no
def eMutV (T : String) (i : Nat) (F : D → List D → Option (D × D)) (g : Ga → R (List Res × Ga)) : Ga → R (Res × Ga) := fun γ => muAt γ i >>= fun a => if a.ty = T then
  g γ >>= fun q => muAt q.2 i >>= fun a => vals q.1 >>= fun as => ofO (F a as) >>= fun p => .ok (.val p.1, q.2.set i (.mu p.2)) else .no
variable {T id : String} {name x : Str} {r : V → List V → Hp → VK → Prop} {F : D → List D → Option (D × D)} {i : Nat}
theorem ev_mut0 (pa : PlainAttrs T) (slot : Slot T name id) (hty : typeOf (.builtin id) = pure (.type "method_descriptor")) (hm : MtR X id r) (hs : MutW X r F) (ho : PE X (.Name x p1) (tVar i)) (h0 : T ≠ "" ∧ T ≠ "tuple" := by decide)
    (hbase : attributeBase (.Name x p1) name X.env (eval (.Name x p1) X.env) = eval (.Name x p1) X.env := by rfl) (hline : (apos.endLine == cpos.line) = true := by rfl) : Ev X W En (.Call (.Attribute (.Name x p1) name apos) [] [] cpos) (eMut0 T i F) := by
  refine ⟨_, pe_bm0 pa slot hty hm ho hbase hline, fun σ H P γ Q S q => ?_⟩
  unfold eMut0 at q
  rcases muAt_cases γ i with ⟨d, e1, e2⟩ | e1
  · rw [e1, R.ok_bind] at q
    split at q
    · rename_i ht
      obtain ⟨l, h1, h2, h3, h4⟩ := S.mu i d e2
      refine ⟨_, h1, ty_of S.sub h3.w ht h0, ?_⟩
      rcases ofO_cases (F d []) with ⟨p, e, e'⟩ | e
      · rw [e', R.ok_bind] at q
        exact hs P H l [] d [] p.1 p.2 Q S.sub h2 h3 .nil e fun v o ow rv => by
          obtain ⟨S', T'⟩ := S.mut e2 h1 ow
          exact q v _ P S' T' rv
      · rw [e] at q; exact q.elim
    · exact q.elim
  · rw [e1] at q; exact q.elim
theorem ev_mutW (pa : PlainAttrs T) (slot : Slot T name id) (hty : typeOf (.builtin id) = pure (.type "method_descriptor")) (hm : MtR X id r) (hs : MutW X r F) (ho : PE X (.Name x p1) (tVar i)) (ha : EvA X W En (e :: es) g) (h0 : T ≠ "" ∧ T ≠ "tuple" := by decide)
    (hbase : attributeBase (.Name x p1) name X.env (eval (.Name x p1) X.env) = eval (.Name x p1) X.env := by rfl)
    (hfew : ((backTo cpos (starEach (e :: es) X.env)).all (fun x => !x.1) && (backToKw cpos (keywordEach [] X.env)).all (fun x => x.1.isSome)
      && decide ((e :: es).length + ([] : List Keyword).length + (if ([] : List Keyword).isEmpty then 0 else 1) < 30)) = true := by rfl)
    (hline : (apos.endLine == cpos.line) = true := by rfl) (hs' : starEach (e :: es) X.env = (false, eval e X.env) :: starEach es X.env := by rfl) (hplain : (backTo cpos (starEach es X.env)).any (·.1) = false := by rfl) :
    Ev X W En (.Call (.Attribute (.Name x p1) name apos) (e :: es) [] cpos) (eMutW T i F g) := by
  obtain ⟨ta, pa', ha⟩ := ha
  refine ⟨_, pe_bm pa slot hty hm ho pa' hbase hfew hline hs' hplain, fun σ H P γ Q S q => ?_⟩
  unfold eMutW at q
  rcases muAt_cases γ i with ⟨d, e1, e2⟩ | e1
  · rw [e1, R.ok_bind] at q
    split at q
    · rename_i ht
      obtain ⟨l, h1, h2, h3, h4⟩ := S.mu i d e2
      refine ⟨_, h1, ty_of S.sub h3.w ht h0, ?_⟩
      exact args_go (rep := repE X) (k := fun rs γ => muAt γ i >>= fun a => derefs γ rs >>= fun as => ofO (F a as) >>= fun p => .ok (.val p.1, γ.set i (.mu p.2))) ha hrepE S q fun P2 H2 γ2 rs vs S2 T2 r q2 => by
        rcases muAt_cases γ2 i with ⟨d2, e1, e2⟩ | e1
        · rw [e1, R.ok_bind] at q2
          obtain ⟨l', g1, g2, g3, g4⟩ := S2.mu i d2 e2
          rw [h1] at g1; cases g1
          rcases derefs_cases γ2 rs with ⟨ds, e⟩ | e
          · rw [e, R.ok_bind] at q2
            rcases ofO_cases (F d2 ds) with ⟨p, e3, e'⟩ | e3
            · rw [e', R.ok_bind] at q2
              exact hs P2 H2 l vs d2 ds p.1 p.2 Q S2.sub g2 g3 (S2.ws r e) e3 fun v o ow rv => by
                obtain ⟨S', T'⟩ := S2.mut e2 h1 ow
                exact q2 v _ P2 S' T' rv
            · rw [e3] at q2; exact q2.elim
          · rw [e] at q2; exact q2.elim
        · rw [e1] at q2; exact q2.elim
    · exact q.elim
  · rw [e1] at q; exact q.elim
theorem ev_mutV (pa : PlainAttrs T) (slot : Slot T name id) (hty : typeOf (.builtin id) = pure (.type "method_descriptor")) (hm : MtR X id r) (hs : MutV X r F) (ho : PE X (.Name x p1) (tVar i)) (ha : EvA X W En (e :: es) g) (h0 : T ≠ "" ∧ T ≠ "tuple" := by decide)
    (hbase : attributeBase (.Name x p1) name X.env (eval (.Name x p1) X.env) = eval (.Name x p1) X.env := by rfl)
    (hfew : ((backTo cpos (starEach (e :: es) X.env)).all (fun x => !x.1) && (backToKw cpos (keywordEach [] X.env)).all (fun x => x.1.isSome)
      && decide ((e :: es).length + ([] : List Keyword).length + (if ([] : List Keyword).isEmpty then 0 else 1) < 30)) = true := by rfl)
    (hline : (apos.endLine == cpos.line) = true := by rfl) (hs' : starEach (e :: es) X.env = (false, eval e X.env) :: starEach es X.env := by rfl) (hplain : (backTo cpos (starEach es X.env)).any (·.1) = false := by rfl) :
    Ev X W En (.Call (.Attribute (.Name x p1) name apos) (e :: es) [] cpos) (eMutV T i F g) := by
  obtain ⟨ta, pa', ha⟩ := ha
  refine ⟨_, pe_bm pa slot hty hm ho pa' hbase hfew hline hs' hplain, fun σ H P γ Q S q => ?_⟩
  unfold eMutV at q
  rcases muAt_cases γ i with ⟨d, e1, e2⟩ | e1
  · rw [e1, R.ok_bind] at q
    split at q
    · rename_i ht
      obtain ⟨l, h1, h2, h3, h4⟩ := S.mu i d e2
      refine ⟨_, h1, ty_of S.sub h3.w ht h0, ?_⟩
      exact args_go (rep := repE X) (k := fun rs γ => muAt γ i >>= fun a => vals rs >>= fun as => ofO (F a as) >>= fun p => .ok (.val p.1, γ.set i (.mu p.2))) ha hrepE S q fun P2 H2 γ2 rs vs S2 T2 r q2 => by
        rcases muAt_cases γ2 i with ⟨d2, e1, e2⟩ | e1
        · rw [e1, R.ok_bind] at q2
          obtain ⟨l', g1, g2, g3, g4⟩ := S2.mu i d2 e2
          rw [h1] at g1; cases g1
          rcases vals_cases rs with ⟨ds, e⟩ | e
          · rw [e, R.ok_bind] at q2
            rcases ofO_cases (F d2 ds) with ⟨p, e3, e'⟩ | e3
            · rw [e', R.ok_bind] at q2
              exact hs P2 H2 l vs d2 ds p.1 p.2 Q S2.sub g2 g3 (vals_rep r e) e3 fun v o ow rv => by
                obtain ⟨S', T'⟩ := S2.mut e2 h1 ow
                exact q2 v _ P2 S' T' rv
            · rw [e3] at q2; exact q2.elim
          · rw [e] at q2; exact q2.elim
        · rw [e1] at q2; exact q2.elim
    · exact q.elim
  · rw [e1] at q; exact q.elim
end
end DL
end
section
set_option Elab.async false
set_option linter.all false
set_option maxRecDepth 100000
namespace DL
open PySem L2 Evl

/-- how a statement ends -/
inductive Fl where
  | next | brk | cont | ret (d : D)

section
variable {X : Cx} {W : WX} {En : Ent} {e a b c tg : Expr} {es : List Expr} {st : Stmt} {sts sts2 : List Stmt} {pos p1 p2 apos cpos : Pos} {f fa fb fc : Ga → R (Res × Ga)} {g : Ga → R (List Res × Ga)} {h h1 h2 : Ga → R (Fl × Ga)}
/-- what is wanted behind a statement -/
def PostS (X : Cx) (W : WX) (En : Ent) (P : Hp) (D : Ends) : R (Fl × Ga) → Prop
  | .ok (.next, γ') => ∀ σ' H' P', Sat X.K X.mg En P' σ' H' γ' → Ex P P' → D.nx σ' H'
  | .ok (.brk, γ') => ∀ σ' H' P', Sat X.K X.mg En P' σ' H' γ' → Ex P P' → D.bk σ' H'
  | .ok (.cont, γ') => ∀ σ' H' P', Sat X.K X.mg En P' σ' H' γ' → Ex P P' → D.ct σ' H'
  | .ok (.ret d, γ') => ∀ v σ' H' P', Sat X.K X.mg En P' σ' H' γ' → Ex P P' → Rep X.K X.mg P' d v → D.rt v H'
  | .exc c => ∀ σ' H' cls, (∀ a o, En.H0 a = some o → ¬ En.M a → H' a = some o) → LamX.Tabs En.T H' → X.mg c = some cls → W cls none σ' H'
  | .no => False
theorem PostS.later {P P1 : Hp} {D : Ends} (e : Ex P P1) : ∀ {r : R (Fl × Ga)}, PostS X W En P D r → PostS X W En P1 D r
  | .ok (.next, γ'), q => fun σ' H' P' S x => q σ' H' P' S (e.trans x)
  | .ok (.brk, γ'), q => fun σ' H' P' S x => q σ' H' P' S (e.trans x)
  | .ok (.cont, γ'), q => fun σ' H' P' S x => q σ' H' P' S (e.trans x)
  | .ok (.ret d, γ'), q => fun v σ' H' P' S x => q v σ' H' P' S (e.trans x)
  | .exc c, q => q
  | .no, q => q
/-- what an expression raises, its statement raises -/
theorem Sat.keeps {P H : Hp} {σ : L2.St} {γ : Ga} (S : Sat X.K X.mg En P σ H γ) {H' : Hp} (k : ∀ a o, H a = some o → ¬ MuAt En.T σ γ a → H' a = some o) : ∀ a o, En.H0 a = some o → ¬ En.M a → H' a = some o := fun a o e nm => by
  refine k a o (S.keep a o e nm) fun z => ?_
  rcases z with ⟨i, d, h1, h2⟩ | z
  · obtain ⟨b, g1, g2, g3, g4⟩ := S.mu i d h1
    rw [h2] at g1; cases g1
    rcases g4 with ⟨g5, g6⟩ | ⟨g5, g6⟩
    · exact nm (.inl ⟨i, g5, by rw [← g6, h2]⟩)
    · rw [g6] at e; cases e
  · exact nm (.inr z)
def EvS (X : Cx) (W : WX) (En : Ent) (st : Stmt) (h : Ga → R (Fl × Ga)) : Prop :=
  ∃ t, PS X st t ∧ ∀ σ H P γ D, Sat X.K X.mg En P σ H γ → PostS X W En P D (h γ) → t D σ H
def EvSs (X : Cx) (W : WX) (En : Ent) (sts : List Stmt) (h : Ga → R (Fl × Ga)) : Prop :=
  ∃ t, PSs X sts t ∧ ∀ σ H P γ D, Sat X.K X.mg En P σ H γ → PostS X W En P D (h γ) → t D σ H
/-- an expression, then what a statement makes of it -/
theorem stm_go {α β : Type} {rep : Hp → Hp → Hp → L2.St → α → β → Prop} {t : St → Hp → (β → Hp → Prop) → Prop} {f : Ga → R (α × Ga)}
    (ht : ∀ σ H P γ Q, Sat X.K X.mg En P σ H γ → PostG X W En rep σ P H γ Q (f γ) → t σ H Q) {σ : L2.St} {H P : Hp} {γ : Ga} {D : Ends} {k : α → Ga → R (Fl × Ga)} {R' : β → Hp → Prop} (S : Sat X.K X.mg En P σ H γ)
    (q : PostS X W En P D (f γ >>= fun p => k p.1 p.2))
    (hk : ∀ P2 H2 γ2 r v, Sat X.K X.mg En P2 σ H2 γ2 → Ex P P2 → rep H P2 H2 σ r v → PostS X W En P2 D (k r γ2) → R' v H2) : t σ H R' := by
  refine ht σ H P γ _ S ?_
  cases ea : f γ with
  | no => rw [ea] at q; exact q
  | exc c =>
    rw [ea] at q
    intro H' cls kp tb m
    exact q σ H' cls (S.keeps kp) tb m
  | ok p =>
    obtain ⟨r, γ1⟩ := p
    rw [ea] at q
    intro x H1 P1 S1 T1 r1
    exact hk P1 H1 γ1 r x S1 T1.ph r1 (q.later T1.ph)

/-! ### blocks -/
def sNil : Ga → R (Fl × Ga) := fun γ => .ok (.next, γ)
def sCons (h1 h2 : Ga → R (Fl × Ga)) : Ga → R (Fl × Ga) := fun γ => h1 γ >>= fun p => match p.1 with
  | .next => h2 p.2
  | _ => .ok p
theorem es_nil : EvSs X W En [] sNil := ⟨_, pss_nil, fun σ H P γ D S q => q σ H P S (Ex.refl P)⟩
theorem es_cons (a : EvS X W En st h1) (b : EvSs X W En sts h2) : EvSs X W En (st :: sts) (sCons h1 h2) := by
  obtain ⟨t, p, a⟩ := a
  obtain ⟨u, p', b⟩ := b
  refine ⟨_, pss_cons p p', fun σ H P γ D S q => a σ H P γ _ S ?_⟩
  unfold sCons at q
  cases e : h1 γ with
  | no => rw [e] at q; exact q
  | exc c => rw [e] at q; exact q
  | ok r =>
    obtain ⟨fl, γ'⟩ := r
    rw [e, R.ok_bind] at q
    cases fl with
    | next => exact fun σ' H' P' S' x => b σ' H' P' γ' D S' (q.later x)
    | brk => exact q
    | cont => exact q
    | ret d => exact q
theorem es_one (a : EvS X W En st h1) : EvSs X W En [st] h1 := let ⟨t, p, a⟩ := a; ⟨t, pss_one p, a⟩
theorem es_pass : EvS X W En (.Pass pos) sNil := ⟨_, ps_pass, fun σ H P γ D S q => q σ H P S (Ex.refl P)⟩
def sBrk : Ga → R (Fl × Ga) := fun γ => .ok (.brk, γ)
def sCont : Ga → R (Fl × Ga) := fun γ => .ok (.cont, γ)
theorem es_brk : EvS X W En (.Break pos) sBrk := ⟨_, ps_break, fun σ H P γ D S q => q σ H P S (Ex.refl P)⟩
theorem es_cont : EvS X W En (.Continue pos) sCont := ⟨_, ps_continue, fun σ H P γ D S q => q σ H P S (Ex.refl P)⟩
/-- the value of an expression as a tree -/
def valOf : Res → R D
  | .val d => .ok d
  | .cell _ => .no
def sExpr (f : Ga → R (Res × Ga)) : Ga → R (Fl × Ga) := fun γ => f γ >>= fun p => .ok (.next, p.2)
theorem es_expr (he : Ev X W En e f) (hs : swapsWith e none pos.line X.env = pure false := by rfl) : EvS X W En (.Expr e pos) (sExpr f) := by
  obtain ⟨t, p, he⟩ := he
  exact ⟨_, ps_expr p hs, fun σ H P γ D S q => stm_go (rep := repE X) (k := fun _ γ => .ok (.next, γ)) (R' := fun _ H1 => D.nx σ H1) he S q fun P2 H2 γ2 r v S2 x rv q2 => q2 σ H2 P2 S2 (Ex.refl P2)⟩
def sRet (f : Ga → R (Res × Ga)) : Ga → R (Fl × Ga) := fun γ => f γ >>= fun p => valOf p.1 >>= fun d => .ok (.ret d, p.2)
theorem es_ret (he : Ev X W En e f) : EvS X W En (.Return (some e) pos) (sRet f) := by
  obtain ⟨t, p, he⟩ := he
  refine ⟨_, ps_ret p, fun σ H P γ D S q => stm_go (rep := repE X) (k := fun r γ => valOf r >>= fun d => .ok (.ret d, γ)) (R' := D.rt) he S q fun P2 H2 γ2 r v S2 x rv q2 => ?_⟩
  cases r with
  | val d => exact q2 v σ H2 P2 S2 (Ex.refl P2) rv
  | cell i => exact q2.elim
def sRetN : Ga → R (Fl × Ga) := fun γ => .ok (.ret .non, γ)
theorem es_retN : EvS X W En (.Return none pos) sRetN := ⟨_, ps_retN, fun σ H P γ D S q => q .non σ H P S (Ex.refl P) .non⟩
def sIf (g : Ga → R (Bool × Ga)) (h1 h2 : Ga → R (Fl × Ga)) : Ga → R (Fl × Ga) := fun γ => g γ >>= fun p => if p.1 = true then h1 p.2 else h2 p.2
theorem es_if {gt : Ga → R (Bool × Ga)} (hc : EvT X W En c gt) (ha : EvSs X W En sts h1) (hb : EvSs X W En sts2 h2) : EvS X W En (.If c sts sts2 pos) (sIf gt h1 h2) := by
  obtain ⟨t, p, hc⟩ := hc
  obtain ⟨ta, pa, ha⟩ := ha
  obtain ⟨tb, pb, hb⟩ := hb
  refine ⟨_, ps_if p pa pb, fun σ H P γ D S q => stm_go (rep := repT) (k := fun b γ => if b = true then h1 γ else h2 γ) (R' := fun b H1 => if b = true then ta D σ H1 else tb D σ H1) hc S q fun P2 H2 γ2 r v S2 x rv q2 => ?_⟩
  have rv : r = v := rv
  subst rv
  cases r with
  | true => exact ha σ H2 P2 γ2 D S2 q2
  | false => exact hb σ H2 P2 γ2 D S2 q2
/-- raise c('..') -/
def sRaise (c : Str) : Ga → R (Fl × Ga) := fun _ => .exc c
theorem es_raise {x m : Str} {C : Addr} {bmB : List Value} {B newId initId : String} {j : Nat} {q1 q2 : Pos} (hc : X.calm = true) (tk : Takes X W) (F : ExcBaseFacts B newId initId bmB) (q : PySem.W.excIn X.K C bmB newId = true) (gC : X.mg x = some (.ref C)) (kC : PySem.W.keepIn X.K (.ref C) = true) (r : Raises X (.ref C)) (hg : Gl X x)
    (hdb : (x == ("__debug__" : Str)) = false := by decide) : EvS X W En (.Raise (some (.Call (.Name x q1) [.Constant (.str m) j q2] [] p1)) none pos) (sRaise x) :=
  ⟨_, ps_raise hc tk (pmk_own F q gC kC r hg hdb), fun σ H P γ D S q => q σ H _ (fun a o e nm => S.keep a o e nm) S.tab gC⟩

/-! ### targets -/
theorem Sat.put {P H : Hp} {σ : L2.St} {γ : Ga} (S : Sat X.K X.mg En P σ H γ) {i : Nat} {d : D} {v : V} (r : Rep X.K X.mg P d v) : Sat X.K X.mg En P (σ.set i (some v)) H (γ.set i (.pu d)) := by
  refine ⟨S.sub, by simpa using S.len, S.old, S.new, S.keep, S.dom, S.tab, S.tabP, fun j d2 q => ?_, fun j d2 q => ?_, fun j k d2 d3 hjk e1 e2 => ?_⟩
  · rcases set_get q with ⟨rfl, z⟩ | ⟨hj, q⟩
    · cases z
      have li : j < σ.length := by
        have := (List.getElem?_eq_some_iff.mp q).1
        rw [List.length_set] at this
        rw [S.len]; exact this
      exact ⟨v, by rw [List.getElem?_set_self li], r⟩
    · obtain ⟨w, g1, g2⟩ := S.pu j d2 q
      exact ⟨w, by rw [List.getElem?_set_ne (Ne.symm hj)]; exact g1, g2⟩
  · rcases set_get q with ⟨rfl, z⟩ | ⟨hj, q⟩
    · cases z
    · obtain ⟨w, g1, g2⟩ := S.mu j d2 q
      exact ⟨w, by rw [List.getElem?_set_ne (Ne.symm hj)]; exact g1, by rw [List.getElem?_set_ne (Ne.symm hj)]; exact g2⟩
  · rcases set_get e1 with ⟨_, z⟩ | ⟨n1, e1⟩
    · cases z
    · rcases set_get e2 with ⟨_, z⟩ | ⟨n2, e2⟩
      · cases z
      · rw [List.getElem?_set_ne (Ne.symm n1), List.getElem?_set_ne (Ne.symm n2)]
        exact S.ne j k d2 d3 hjk e1 e2
/-- a new object in a slot -/
theorem Sat.putM {P H : Hp} {σ : L2.St} {γ : Ga} (S : Sat X.K X.mg En P σ H γ) {i : Nat} {d : D} {p : Addr} (n : P p = none) (o : Own X.K X.mg P H d p) (h0 : En.H0 p = none) (nm : ¬ MuAt En.T σ γ p) (hi : i ∉ En.ms) : Sat X.K X.mg En P (σ.set i (some (.ref p))) H (γ.set i (.mu d)) := by
  refine ⟨S.sub, by simpa using S.len, S.old, S.new, S.keep, S.dom, S.tab, S.tabP, fun j d2 q => ?_, fun j d2 q => ?_, fun j k d2 d3 hjk e1 e2 => ?_⟩
  · rcases set_get q with ⟨rfl, z⟩ | ⟨hj, q⟩
    · cases z
    · obtain ⟨w, g1, g2⟩ := S.pu j d2 q
      exact ⟨w, by rw [List.getElem?_set_ne (Ne.symm hj)]; exact g1, g2⟩
  · rcases set_get q with ⟨rfl, z⟩ | ⟨hj, q⟩
    · cases z
      have li : j < σ.length := by
        have := (List.getElem?_eq_some_iff.mp q).1
        rw [List.length_set] at this
        rw [S.len]; exact this
      exact ⟨p, by rw [List.getElem?_set_self li], n, o, .inr ⟨hi, h0⟩⟩
    · obtain ⟨w, g1, g2⟩ := S.mu j d2 q
      exact ⟨w, by rw [List.getElem?_set_ne (Ne.symm hj)]; exact g1, by rw [List.getElem?_set_ne (Ne.symm hj)]; exact g2⟩
  · have li : i < γ.length → i < σ.length := fun l => by rw [S.len]; exact l
    rcases set_get e1 with ⟨h1, z⟩ | ⟨n1, f1⟩
    · rcases set_get e2 with ⟨h2, z2⟩ | ⟨n2, f2⟩
      · exact absurd (h1.trans h2.symm) hjk
      · obtain ⟨b, g1, _⟩ := S.mu k d3 f2
        have l := (List.getElem?_eq_some_iff.mp e1).1
        rw [List.length_set, h1] at l
        rw [h1, List.getElem?_set_self (li l), List.getElem?_set_ne (Ne.symm n2), g1]
        intro z2
        have : p = b := by simpa using z2
        exact nm (.inl ⟨k, d3, f2, this ▸ g1⟩)
    · rcases set_get e2 with ⟨h2, z2⟩ | ⟨n2, f2⟩
      · obtain ⟨b, g1, _⟩ := S.mu j d2 f1
        have l := (List.getElem?_eq_some_iff.mp e2).1
        rw [List.length_set, h2] at l
        rw [h2, List.getElem?_set_self (li l), List.getElem?_set_ne (Ne.symm n1), g1]
        intro z2
        have : b = p := by simpa using z2
        exact nm (.inl ⟨j, d2, f1, this ▸ g1⟩)
      · rw [List.getElem?_set_ne (Ne.symm n1), List.getElem?_set_ne (Ne.symm n2)]
        exact S.ne j k d2 d3 hjk f1 f2
/-- σ' is σ but at js -/
def But (js : List Nat) (σ σ' : L2.St) : Prop := σ'.length = σ.length ∧ ∀ j, j ∉ js → σ'[j]? = σ[j]?
theorem But.refl (js : List Nat) (σ : L2.St) : But js σ σ := ⟨rfl, fun _ _ => rfl⟩
theorem But.set {js : List Nat} {σ : L2.St} {i : Nat} {x : Option V} (h : i ∈ js) : But js σ (σ.set i x) := ⟨by simp, fun j hj => List.getElem?_set_ne (fun z : i = j => hj (z ▸ h))⟩
theorem But.trans {js : List Nat} {σ σ1 σ2 : L2.St} (a : But js σ σ1) (b : But js σ1 σ2) : But js σ σ2 := ⟨b.1.trans a.1, fun j hj => (b.2 j hj).trans (a.2 j hj)⟩
theorem But.mono {js ks : List Nat} {σ σ1 : L2.St} (a : But js σ σ1) (h : ∀ j ∈ js, j ∈ ks) : But ks σ σ1 := ⟨a.1, fun j hj => a.2 j fun z => hj (h j z)⟩
def EvG (X : Cx) (En : Ent) (js : List Nat) (tg : Expr) (b : D → Ga → Option Ga) : Prop :=
  ∃ t : TG, PG X tg t ∧ ∀ v d σ H P γ γ' (Q : L2.St → Hp → Prop), Sat X.K X.mg En P σ H γ → Rep X.K X.mg P d v → b d γ = some γ' → (∀ σ', Sat X.K X.mg En P σ' H γ' → But js σ σ' → Q σ' H) → t v σ H Q
def EvGs (X : Cx) (En : Ent) (js : List Nat) (tgs : List Expr) (b : List D → Ga → Option Ga) : Prop :=
  ∃ t : TGs, PGs X tgs t ∧ ∀ vs ds σ H P γ γ' (Q : L2.St → Hp → Prop), Sat X.K X.mg En P σ H γ → RepL X.K X.mg P ds vs → b ds γ = some γ' → (∀ σ', Sat X.K X.mg En P σ' H γ' → But js σ σ' → Q σ' H) → t vs σ H Q
def bName (i : Nat) : D → Ga → Option Ga := fun d γ => some (γ.set i (.pu d))
theorem eg_name {i : Nat} (hp : PG X tg (gName i)) : EvG X En [i] tg (bName i) :=
  ⟨_, hp, fun v d σ H P γ γ' Q S r e q => by cases e; exact q _ (S.put r) (But.set (by simp))⟩
def bNil : List D → Ga → Option Ga := fun ds γ => match ds with
  | [] => some γ
  | _ => none
def bCons (b : D → Ga → Option Ga) (bs : List D → Ga → Option Ga) : List D → Ga → Option Ga := fun ds γ => match ds with
  | d :: ds => match b d γ with
    | some γ1 => bs ds γ1
    | none => none
  | _ => none
def bTup (n : Nat) (bs : List D → Ga → Option Ga) : D → Ga → Option Ga := fun d γ => match d with
  | .tup ds => if ds.length = n then bs ds γ else none
  | _ => none
theorem egs_nil : EvGs X En [] [] bNil := ⟨_, pgs_nil, fun vs ds σ H P γ γ' Q S r e q => by
  unfold bNil at e
  split at e
  · cases e; cases r; exact ⟨rfl, q σ S (But.refl _ _)⟩
  · cases e⟩
theorem egs_cons {js ks : List Nat} {tgs : List Expr} {b : D → Ga → Option Ga} {bs : List D → Ga → Option Ga} (h : EvG X En js tg b) (hs : EvGs X En ks tgs bs) (he : (assignEach (tg :: tgs) X.env).map (·.2) = assign tg X.env :: (assignEach tgs X.env).map (·.2) := by rfl) : EvGs X En (js ++ ks) (tg :: tgs) (bCons b bs) := by
  obtain ⟨t, p, h⟩ := h
  obtain ⟨u, p', hs⟩ := hs
  refine ⟨_, pgs_cons p p' he, fun vs ds σ H P γ γ' Q S r e q => ?_⟩
  unfold bCons at e
  split at e
  · rename_i d ds
    cases r with
    | cons r0 r =>
      cases e1 : b d γ with
      | none => rw [e1] at e; cases e
      | some γ1 =>
        rw [e1] at e
        exact ⟨_, _, rfl, h _ _ σ H P γ γ1 _ S r0 e1 fun σ1 S1 b1 => hs _ _ σ1 H P γ1 γ' Q S1 r e fun σ2 S2 b2 => q σ2 S2 ((b1.mono fun j hj => List.mem_append_left _ hj).trans (b2.mono fun j hj => List.mem_append_right _ hj))⟩
  · cases e
theorem eg_tup {js : List Nat} {k n : Nat} {bs : List D → Ga → Option Ga} (hc : X.calm = true) (h : EvGs X En js es bs) (hn : (assignEach es X.env).length = n := by rfl) (hst : (assignEach es X.env).findIdx? (·.1) = none := by rfl) : EvG X En js (.Tuple es k pos) (bTup n bs) := by
  obtain ⟨t, p, h⟩ := h
  refine ⟨_, pg_tup hc p hn hst, fun v d σ H P γ γ' Q S r e q => ?_⟩
  unfold bTup at e
  split at e
  · split at e
    · rename_i ds hl
      cases r with
      | tup hp r =>
        exact ⟨_, _, rfl, .of (S.sub _ _ hp), by rw [← r.length]; exact hl, h _ _ σ H P γ γ' Q S r e q⟩
    · cases e
  · cases e
/-- target = e -/
def sAsg (f : Ga → R (Res × Ga)) (b : D → Ga → Option Ga) : Ga → R (Fl × Ga) := fun γ => f γ >>= fun p => valOf p.1 >>= fun d => ofO (b d p.2) >>= fun γ' => .ok (.next, γ')
theorem asg_go {t : TE} {u : TG} {b : D → Ga → Option Ga} {js : List Nat} (ht : ∀ σ H P γ Q, Sat X.K X.mg En P σ H γ → PostG X W En (repE X) σ P H γ Q (f γ) → t σ H Q)
    (hu : ∀ v d σ H P γ γ' (Q : L2.St → Hp → Prop), Sat X.K X.mg En P σ H γ → Rep X.K X.mg P d v → b d γ = some γ' → (∀ σ', Sat X.K X.mg En P σ' H γ' → But js σ σ' → Q σ' H) → u v σ H Q)
    {σ : L2.St} {H P : Hp} {γ : Ga} {D : Ends} (S : Sat X.K X.mg En P σ H γ) (q : PostS X W En P D (sAsg f b γ)) : tAsg t u D σ H :=
  stm_go (rep := repE X) (k := fun r γ => valOf r >>= fun d => ofO (b d γ) >>= fun γ' => .ok (.next, γ')) (R' := fun v H1 => u v σ H1 D.nx) ht S q fun P2 H2 γ2 r v S2 x rv q2 => by
    cases r with
    | cell i => exact q2.elim
    | val d =>
      change PostS X W En P2 D (ofO (b d γ2) >>= fun γ' => .ok (.next, γ')) at q2
      cases e : b d γ2 with
      | none => rw [e] at q2; exact q2.elim
      | some γ' =>
        rw [e] at q2
        exact hu v d σ H2 P2 γ2 γ' _ S2 rv e fun σ' S' _ => q2 σ' H2 P2 S' (Ex.refl P2)
end
end DL
end
section
set_option Elab.async false
set_option linter.all false
set_option maxRecDepth 100000
namespace DL
open PySem L2 Evl

section
variable {X : Cx} {W : WX} {En : Ent} {e a b c tg : Expr} {es : List Expr} {st : Stmt} {sts sts2 : List Stmt} {pos p1 p2 apos cpos : Pos} {f fa fb fc : Ga → R (Res × Ga)} {g : Ga → R (List Res × Ga)} {h h1 h2 : Ga → R (Fl × Ga)}
theorem es_asg {js : List Nat} {bd : D → Ga → Option Ga} (he : Ev X W En e f) (hg : EvG X En js tg bd) (hs : swapsWithSole [tg] e pos.line X.env = pure false := by rfl) (hw : swappedStores [tg] e X.env = pure none := by rfl)
    (h1 : (assignEach [tg] X.env).map (·.2) = [assign tg X.env] := by rfl) : EvS X W En (.Assign [tg] e pos) (sAsg f bd) :=
  let ⟨_, p, he⟩ := he
  let ⟨_, p', hg⟩ := hg
  ⟨_, ps_asg p p' hs hw h1, fun _ _ _ _ _ S q => asg_go he hg S q⟩
theorem es_set {i : Nat} {x : Str} (hN : X.N.Nodup) (hi : X.N[i]? = some x) (hx : Loc X.env.scope x) (he : Ev X W En e f) (hs : swapsWith e (some (.Name x p1)) pos.line X.env = pure false := by rfl) (hf : X.fn x = true ∨ X.env.scope.names.lookup x = some .local := by first | exact .inl rfl | exact .inr rfl | assumption) :
    EvS X W En (.Assign [.Name x p1] e pos) (sAsg f (bName i)) :=
  let ⟨_, p, he⟩ := he
  ⟨_, ps_set hN hi hx p hs hf, fun _ _ _ _ _ S q => asg_go he (fun v d σ H P γ γ' Q S r e q => by cases e; exact q _ (S.put r) (But.set (i := i) (js := [i]) (by simp))) S q⟩
/-- name = a new object, of one's own from now on -/
def sNew (i : Nat) (f : Ga → R (D × Ga)) : Ga → R (Fl × Ga) := fun γ => f γ >>= fun p => .ok (.next, p.2.set i (.mu p.1))
theorem new_go {t : TE} {fd : Ga → R (D × Ga)} {i : Nat} (hi : i ∉ En.ms) (ht : ∀ σ H P γ Q, Sat X.K X.mg En P σ H γ → PostG X W En (repF X) σ P H γ Q (fd γ) → t σ H Q)
    {σ : L2.St} {H P : Hp} {γ : Ga} {D : Ends} (S : Sat X.K X.mg En P σ H γ) (q : PostS X W En P D (sNew i fd γ)) : tAsg t (gName i) D σ H := by
  refine ht σ H P γ _ S ?_
  unfold sNew at q
  cases ea : fd γ with
  | no => rw [ea] at q; exact q
  | exc c =>
    rw [ea] at q
    intro H' cls kp tb m
    exact q σ H' cls (S.keeps kp) tb m
  | ok p =>
    obtain ⟨d, γ2⟩ := p
    rw [ea, R.ok_bind] at q
    rintro v H2 P2 S2 T2 ⟨p, rfl, n, n', o⟩
    have h0 : En.H0 p = none := Classical.byContradiction fun z => S.dom p z n
    have nm : ¬ MuAt En.T σ γ2 p := fun z => ((T2.mus p z).there S).2 n
    exact q _ H2 P2 (S2.putM n' o h0 nm hi) T2.ph
theorem es_new {fd : Ga → R (D × Ga)} {i : Nat} {x : Str} (hm : i ∉ En.ms) (hN : X.N.Nodup) (hi : X.N[i]? = some x) (hx : Loc X.env.scope x) (he : EvF X W En e fd) (hs : swapsWith e (some (.Name x p1)) pos.line X.env = pure false := by rfl) (hf : X.fn x = true ∨ X.env.scope.names.lookup x = some .local := by first | exact .inl rfl | exact .inr rfl | assumption) :
    EvS X W En (.Assign [.Name x p1] e pos) (sNew i fd) :=
  let ⟨_, p, he⟩ := he
  ⟨_, ps_set hN hi hx p hs hf, fun _ _ _ _ _ S q => new_go hm he S q⟩
/-- a comprehension: as a value, and as a local's -/
def EvL (X : Cx) (W : WX) (En : Ent) (e : Expr) (fd : Ga → R (D × Ga)) : Prop :=
  ∃ t, PE X e t ∧ (∀ {i : Nat} {y : Str} {py spos : Pos}, X.N[i]? = some y → X.env.scope.names.lookup y = some .local → swapsWith e (some (.Name y py)) spos.line X.env = pure true → PS X (.Assign [.Name y py] e spos) (tAsg t (gName i))) ∧
    ∀ σ H P γ Q, Sat X.K X.mg En P σ H γ → PostG X W En (repF X) σ P H γ Q (fd γ) → t σ H Q
theorem EvL.fr {fd : Ga → R (D × Ga)} (h : EvL X W En e fd) : EvF X W En e fd := let ⟨t, p, _, q⟩ := h; ⟨t, p, q⟩
theorem EvL.v {fd : Ga → R (D × Ga)} (h : EvL X W En e fd) : Ev X W En e (toE fd) := h.fr.ev
theorem es_newL {fd : Ga → R (D × Ga)} {i : Nat} {x : Str} (hm : i ∉ En.ms) (hi : X.N[i]? = some x) (hx : X.env.scope.names.lookup x = some .local) (he : EvL X W En e fd) (hs : swapsWith e (some (.Name x p1)) pos.line X.env = pure true) : EvS X W En (.Assign [.Name x p1] e pos) (sNew i fd) :=
  let ⟨_, _, p, he⟩ := he
  ⟨_, p hi hx hs, fun _ _ _ _ _ S q => new_go hm he S q⟩
/-- behind a statement the value in a slot is locked -/
theorem ps_fz {t : TS} {i : Nat} {x : Str} (hi : X.N[i]? = some x) (h : PS X st t) : PS X st (fun D σ H => i < σ.length → t { D with nx := fun σ' H' => ∃ v, σ'[i]? = some (some v) ∧ FzV v H' fun _ H2 => D.nx σ' H2 } σ H) := ⟨fun pins s σ H D I q =>
  thn (h.run pins s σ H _ I (q (by rw [I.len]; exact (List.getElem?_eq_some_iff.mp hi).1))) fun fl s1 q1 => by
    cases fl with
    | next =>
      obtain ⟨σ1, H1, I1, v, _, q1⟩ := q1
      obtain ⟨H2, I2, q2⟩ := fz_inv I1 q1
      exact ⟨σ1, H2, I2, q2⟩
    | brk => exact q1
    | cont => exact q1
    | ret u => exact q1⟩
theorem PostK.mono {α β : Type} {K : PySem.W.Frag} {mg : Str → Option Value} {rep : Hp → Hp → Hp → L2.St → α → β → Prop} {σ : L2.St} {P H : Hp} {γ : Ga} {Q Q' : β → Hp → Prop} (hq : ∀ v H', Q v H' → Q' v H') : ∀ {r : R (α × Ga)}, PostK K mg W En rep σ P H γ Q r → PostK K mg W En rep σ P H γ Q' r
  | .ok (r, γ'), h => fun v H' P' S T q => hq _ _ (h v H' P' S T q)
  | .exc c, h => h
  | .no, h => h
theorem FzV.mono {v : V} {H : Hp} {Q Q' : VK} (hq : ∀ H', Q v H' → Q' v H') (h : FzV v H Q) : FzV v H Q' := let ⟨a, u, e, hu, hk, q⟩ := h; ⟨a, u, e, hu, hk, fun o => hq _ (q o)⟩
theorem es_setL {fd : Ga → R (D × Ga)} {i : Nat} {x : Str} (hi : X.N[i]? = some x) (hx : X.env.scope.names.lookup x = some .local) (he : EvL X W En e fd) (hs : swapsWith e (some (.Name x p1)) pos.line X.env = pure true) : EvS X W En (.Assign [.Name x p1] e pos) (sAsg (toE fd) (bName i)) := by
  obtain ⟨t, pe, p, he⟩ := he
  refine ⟨_, ps_fz hi (p hi hx hs), fun σ H P γ D S q li => ?_⟩
  refine he σ H P γ _ S (PostK.mono (fun v H' z => ⟨v, ?_, z⟩) (EvF.post (Q := fun v H' => D.nx (σ.set i (some v)) H') S ?_))
  · unfold sAsg at q
    cases e : toE fd γ with
    | no => rw [e] at q; exact q
    | exc c =>
      rw [e] at q
      exact fun H' cls kp tb m => q σ H' cls (S.keeps kp) tb m
    | ok r =>
      obtain ⟨r, γ'⟩ := r
      rw [e, R.ok_bind] at q
      intro v H' P' S' T' rv
      cases r with
      | cell j => exact q.elim
      | val d => exact q _ H' P' (S'.put rv) T'.ph
  · rw [List.getElem?_set_self li]
end
end DL
end
section
set_option Elab.async false
set_option linter.all false
set_option maxRecDepth 100000
namespace DL
open PySem L2 Evl

section
variable {X : Cx} {W : WX} {En : Ent} {e a b c tg : Expr} {es : List Expr} {st : Stmt} {sts sts2 : List Stmt} {pos p1 p2 apos cpos : Pos} {f fa fb fc : Ga → R (Res × Ga)} {g : Ga → R (List Res × Ga)} {h h1 h2 : Ga → R (Fl × Ga)}

/-! ### a, b = e1, e2: values or new objects -/
inductive ParRep (K : PySem.W.Frag) (mg : Str → Option Value) (Hs P H : Hp) : List Sl → List V → List Addr → Prop
  | nil : ParRep K mg Hs P H [] [] []
  | pu {d : D} {v : V} {ss : List Sl} {vs : List V} {ps : List Addr} : Rep K mg P d v → ParRep K mg Hs P H ss vs ps → ParRep K mg Hs P H (.pu d :: ss) (v :: vs) ps
  | mu {d : D} {p : Addr} {ss : List Sl} {vs : List V} {ps : List Addr} : Hs p = none → P p = none → Own K mg P H d p → p ∉ ps → ParRep K mg Hs P H ss vs ps → ParRep K mg Hs P H (.mu d :: ss) (.ref p :: vs) (p :: ps)
theorem ParRep.back {K : PySem.W.Frag} {mg : Str → Option Value} {Hs Hs' P H : Hp} (d : ∀ x, Hs x ≠ none → Hs' x ≠ none) : ∀ {ss : List Sl} {vs : List V} {ps : List Addr}, ParRep K mg Hs' P H ss vs ps → ParRep K mg Hs P H ss vs ps ∧ ∀ p ∈ ps, Hs' p = none
  | _, _, _, .nil => ⟨.nil, fun _ h => by cases h⟩
  | _, _, _, .pu h r => ⟨.pu h (r.back d).1, (r.back d).2⟩
  | _, _, _, .mu h1 h2 h3 h4 r => ⟨.mu (Classical.byContradiction fun z => d _ z h1) h2 h3 h4 (r.back d).1, fun p hp => (List.mem_cons.mp hp).elim (fun z => z ▸ h1) ((r.back d).2 p)⟩
def EvP (X : Cx) (W : WX) (En : Ent) (es : List Expr) (g : Ga → R (List Sl × Ga)) : Prop :=
  ∃ t, PA X es t ∧ ∀ σ H P γ Q, Sat X.K X.mg En P σ H γ → PostG X W En (fun H P' H' _ ss vs => ∃ ps, ParRep X.K X.mg H P' H' ss vs ps) σ P H γ Q (g γ) → t σ H Q
def pNil : Ga → R (List Sl × Ga) := fun γ => .ok ([], γ)
def pVal (f : Ga → R (Res × Ga)) (g : Ga → R (List Sl × Ga)) : Ga → R (List Sl × Ga) := fun γ => f γ >>= fun p => valOf p.1 >>= fun d => g p.2 >>= fun q => .ok (.pu d :: q.1, q.2)
def pNew (f : Ga → R (D × Ga)) (g : Ga → R (List Sl × Ga)) : Ga → R (List Sl × Ga) := fun γ => f γ >>= fun p => g p.2 >>= fun q => .ok (.mu p.1 :: q.1, q.2)
variable {gp : Ga → R (List Sl × Ga)}
theorem ep_nil : EvP X W En [] pNil := ⟨_, pa_nil, fun σ H P γ Q S q => q [] H P S .refl ⟨[], .nil⟩⟩
theorem ep_val (he : Ev X W En e f) (hr : EvP X W En es gp) (hs : starEach (e :: es) X.env = (false, eval e X.env) :: starEach es X.env := by rfl) : EvP X W En (e :: es) (pVal f gp) := by
  obtain ⟨t, p, he⟩ := he
  obtain ⟨u, p', hr⟩ := hr
  refine ⟨_, pa_cons p p' hs, fun σ H P γ Q S q => he σ H P γ _ S ?_⟩
  unfold pVal at q
  cases e1 : f γ with
  | no => rw [e1] at q; exact q
  | exc c => rw [e1] at q; exact q
  | ok r =>
    obtain ⟨r, γ1⟩ := r
    rw [e1, R.ok_bind] at q
    intro v H1 P1 S1 T1 rv
    cases r with
    | cell i => exact q.elim
    | val d =>
      refine hr σ H1 P1 γ1 _ S1 ?_
      change PostG X W En _ σ P H γ Q (gp γ1 >>= fun q => .ok (.pu d :: q.1, q.2)) at q
      have q1 := PostG.later T1 (fun _ _ _ _ _ ⟨ps, h⟩ => ⟨ps, (h.back T1.dom).1⟩) q
      cases e2 : gp γ1 with
      | no => rw [e2] at q1; exact q1
      | exc c => rw [e2] at q1; exact q1
      | ok r2 =>
        obtain ⟨rs, γ2⟩ := r2
        rw [e2] at q1
        rintro vs H2 P2 S2 T2 ⟨ps, rvs⟩
        exact q1 (v :: vs) H2 P2 S2 T2 ⟨ps, .pu (rv.mono T2.ph) rvs⟩
theorem ep_new {fd : Ga → R (D × Ga)} (he : EvF X W En e fd) (hr : EvP X W En es gp) (hs : starEach (e :: es) X.env = (false, eval e X.env) :: starEach es X.env := by rfl) : EvP X W En (e :: es) (pNew fd gp) := by
  obtain ⟨t, p, he⟩ := he
  obtain ⟨u, p', hr⟩ := hr
  refine ⟨_, pa_cons p p' hs, fun σ H P γ Q S q => he σ H P γ _ S ?_⟩
  unfold pNew at q
  cases e1 : fd γ with
  | no => rw [e1] at q; exact q
  | exc c => rw [e1] at q; exact q
  | ok r =>
    obtain ⟨d, γ1⟩ := r
    rw [e1, R.ok_bind] at q
    rintro v H1 P1 S1 T1 ⟨p, rfl, n, n', o⟩
    refine hr σ H1 P1 γ1 _ S1 ?_
    have hp : H1 p ≠ none := by obtain ⟨u, hu, _⟩ := o.there; rw [hu]; simp
    have nm : ¬ MuAt En.T σ γ1 p := fun z => ((T1.mus p z).there S).2 n
    cases e2 : gp γ1 with
    | no => rw [e2] at q; exact q
    | exc c => rw [e2] at q; exact q.later T1 (fun _ _ _ _ _ ⟨ps, h⟩ => ⟨ps, (h.back T1.dom).1⟩) |>.exc'
    | ok r2 =>
      obtain ⟨rs, γ2⟩ := r2
      rw [e2] at q
      rintro vs H2 P2 S2 T2 ⟨ps, rvs⟩
      have kp : ∀ o', H1 p = some o' → H2 p = some o' := fun o' e => T2.keep p o' e nm
      have n2 : P2 p = none := Classical.byContradiction fun z => by
        rcases T2.new p z with h | h | h | ⟨xs, h⟩
        · exact h n'
        · exact hp h
        · exact nm h
        · obtain ⟨u, hu, mu, _⟩ := o.obj
          rw [kp u hu] at h; cases h; exact mu
      exact q (.ref p :: vs) H2 P2 S2 (T1.trans T2) ⟨p :: ps, .mu n n2 (o.mono T2.ph kp) (fun hm => hp ((rvs.back (fun _ h => h)).2 p hm)) (rvs.back T1.dom).1⟩
/-- one slot is laid -/
theorem Sat.putU {P H : Hp} {σ : L2.St} {γ : Ga} (S : Sat X.K X.mg En P σ H γ) {i : Nat} {s : Sl} {ss : List Sl} {v : V} {vs : List V} {ps : List Addr} {Hs : Hp} (hi : i ∉ En.ms) (r : ParRep X.K X.mg Hs P H (s :: ss) (v :: vs) ps) (hd : ∀ p ∈ ps, ¬ MuAt En.T σ γ p ∧ En.H0 p = none) :
    Sat X.K X.mg En P (σ.set i (some v)) H (γ.set i s) ∧ ∃ qs, ParRep X.K X.mg Hs P H ss vs qs ∧ ∀ p ∈ qs, ¬ MuAt En.T (σ.set i (some v)) (γ.set i s) p ∧ En.H0 p = none := by
  have mu' : ∀ {s : Sl} {v : V} {q : Addr}, MuAt En.T (σ.set i (some v)) (γ.set i s) q → MuAt En.T σ γ q ∨ (v = .ref q ∧ ∃ d, s = .mu d) := fun {s v q} z => by
    rcases z with ⟨j, d, e1, e2⟩ | z
    · rcases set_get e1 with ⟨rfl, z⟩ | ⟨hj, e1⟩
      · right
        rw [List.getElem?_set] at e2
        rw [if_pos rfl] at e2
        split at e2
        · exact ⟨by simpa using e2, d, z.symm⟩
        · cases e2
      · rw [List.getElem?_set_ne (Ne.symm hj)] at e2
        exact .inl (.inl ⟨j, d, e1, e2⟩)
    · exact .inl (.inr z)
  cases r with
  | pu h r =>
    refine ⟨S.put h, ps, r, fun p hp => ⟨fun z => ?_, (hd p hp).2⟩⟩
    rcases mu' z with z | ⟨_, d, z⟩
    · exact (hd p hp).1 z
    · cases z
  | mu h1 h2 h3 h4 r =>
    rename_i d p ps
    have hp := hd p List.mem_cons_self
    refine ⟨S.putM h2 h3 hp.2 hp.1 hi, ps, r, fun q hq => ⟨fun z => ?_, (hd q (List.mem_cons_of_mem _ hq)).2⟩⟩
    rcases mu' z with z | ⟨z, _⟩
    · exact (hd q (List.mem_cons_of_mem _ hq)).1 z
    · cases z; exact h4 hq
def sPar2 (i j : Nat) (g : Ga → R (List Sl × Ga)) : Ga → R (Fl × Ga) := fun γ => g γ >>= fun p => match p.1 with
  | [s, t] => .ok (.next, (p.2.set i s).set j t)
  | _ => .no
def sPar3 (i j l : Nat) (g : Ga → R (List Sl × Ga)) : Ga → R (Fl × Ga) := fun γ => g γ >>= fun p => match p.1 with
  | [s, t, u] => .ok (.next, ((p.2.set i s).set j t).set l u)
  | _ => .no
theorem par_go {t : TA} (ht : ∀ σ H P γ Q, Sat X.K X.mg En P σ H γ → PostG X W En (fun H P' H' _ ss vs => ∃ ps, ParRep X.K X.mg H P' H' ss vs ps) σ P H γ Q (gp γ) → t σ H Q) {σ : L2.St} {H P : Hp} {γ : Ga} {D : Ends} {k : List Sl → Ga → R (Fl × Ga)} {R' : List V → Hp → Prop}
    (S : Sat X.K X.mg En P σ H γ) (q : PostS X W En P D (gp γ >>= fun p => k p.1 p.2))
    (hk : ∀ P2 H2 γ2 ss vs ps, Sat X.K X.mg En P2 σ H2 γ2 → (ParRep X.K X.mg H P2 H2 ss vs ps ∧ ∀ p ∈ ps, ¬ MuAt En.T σ γ2 p ∧ En.H0 p = none) → PostS X W En P2 D (k ss γ2) → R' vs H2) : t σ H R' := by
  refine ht σ H P γ _ S ?_
  cases ea : gp γ with
  | no => rw [ea] at q; exact q
  | exc c =>
    rw [ea] at q
    intro H' cls kp tb m
    exact q σ H' cls (S.keeps kp) tb m
  | ok p =>
    obtain ⟨ss, γ2⟩ := p
    rw [ea, R.ok_bind] at q
    rintro vs H2 P2 S2 T2 ⟨ps, r⟩
    exact hk P2 H2 γ2 ss vs ps S2 ⟨r, fun p hp => ⟨fun z => ((T2.mus p z).there S).2 ((r.back (fun _ h => h)).2 p hp), Classical.byContradiction fun z => S.dom p z ((r.back (fun _ h => h)).2 p hp)⟩⟩ (q.later T2.ph)
theorem es_par2 {i j : Nat} {x y : Str} {px py pt : Pos} {kt k2 pt2} (hc : X.calm = true) (hN : X.N.Nodup) (hi : X.N[i]? = some x) (hj : X.N[j]? = some y) (hij : i ≠ j) (hmi : i ∉ En.ms) (hmj : j ∉ En.ms)
    (hx : X.env.scope.names.lookup x = some .local) (hy : X.env.scope.names.lookup y = some .local) (ha : EvP X W En [a, b] gp)
    (hw : swappedStores [.Tuple [.Name x px, .Name y py] kt pt] (.Tuple [a, b] k2 pt2) X.env = pure (some [x, y]))
    (hs : swapsWithSole [.Tuple [.Name x px, .Name y py] kt pt] (.Tuple [a, b] k2 pt2) pos.line X.env = pure false := by rfl) :
    EvS X W En (.Assign [.Tuple [.Name x px, .Name y py] kt pt] (.Tuple [a, b] k2 pt2) pos) (sPar2 i j gp) := by
  obtain ⟨t, p, ha⟩ := ha
  refine ⟨_, ps_par hc hN hi hj hij hx hy p hw hs, fun σ H P γ D S q => par_go (k := fun ss γ => match ss with | [s, t] => .ok (.next, (γ.set i s).set j t) | _ => .no) (R' := fun vs H1 => ∃ v w, vs = [v, w] ∧ D.nx ((σ.set i (some v)).set j (some w)) H1) ha S q fun P2 H2 γ2 ss vs ps S2 r q2 => ?_⟩
  obtain ⟨r, hd⟩ := r
  split at q2
  · rename_i s1 s2
    obtain ⟨v, w, rfl⟩ : ∃ v w, vs = [v, w] := by
      cases r with
      | pu _ r => cases r with
        | pu _ r => cases r; exact ⟨_, _, rfl⟩
        | mu _ _ _ _ r => cases r; exact ⟨_, _, rfl⟩
      | mu _ _ _ _ r => cases r with
        | pu _ r => cases r; exact ⟨_, _, rfl⟩
        | mu _ _ _ _ r => cases r; exact ⟨_, _, rfl⟩
    obtain ⟨S3, qs, r3, hd3⟩ := S2.putU hmi r hd
    obtain ⟨S4, _, _, _⟩ := S3.putU hmj r3 hd3
    exact ⟨v, w, rfl, q2 _ H2 P2 S4 (Ex.refl P2)⟩
  · exact q2.elim
theorem es_par3 {i j l : Nat} {x y z : Str} {px py pz pt : Pos} {kt k2 pt2} (hc : X.calm = true) (hN : X.N.Nodup) (hi : X.N[i]? = some x) (hj : X.N[j]? = some y) (hl : X.N[l]? = some z) (hij : i ≠ j) (hil : i ≠ l) (hjl : j ≠ l) (hmi : i ∉ En.ms) (hmj : j ∉ En.ms) (hml : l ∉ En.ms)
    (hx : X.env.scope.names.lookup x = some .local) (hy : X.env.scope.names.lookup y = some .local) (hz : X.env.scope.names.lookup z = some .local) (ha : EvP X W En [a, b, c] gp)
    (hw : swappedStores [.Tuple [.Name x px, .Name y py, .Name z pz] kt pt] (.Tuple [a, b, c] k2 pt2) X.env = pure (some [x, y, z]))
    (hs : swapsWithSole [.Tuple [.Name x px, .Name y py, .Name z pz] kt pt] (.Tuple [a, b, c] k2 pt2) pos.line X.env = pure false := by rfl) :
    EvS X W En (.Assign [.Tuple [.Name x px, .Name y py, .Name z pz] kt pt] (.Tuple [a, b, c] k2 pt2) pos) (sPar3 i j l gp) := by
  obtain ⟨t, p, ha⟩ := ha
  refine ⟨_, ps_par3 hc hN hi hj hl hij hil hjl hx hy hz p hw hs, fun σ H P γ D S q => par_go (k := fun ss γ => match ss with | [s, t, u] => .ok (.next, ((γ.set i s).set j t).set l u) | _ => .no) (R' := fun vs H1 => ∃ u v w, vs = [u, v, w] ∧ D.nx (((σ.set i (some u)).set j (some v)).set l (some w)) H1) ha S q fun P2 H2 γ2 ss vs ps S2 r q2 => ?_⟩
  obtain ⟨r, hd⟩ := r
  split at q2
  · rename_i s1 s2 s3
    obtain ⟨u, v, w, rfl⟩ : ∃ u v w, vs = [u, v, w] := by
      cases r with
      | pu _ r => cases r with
        | pu _ r => cases r with
          | pu _ r => cases r; exact ⟨_, _, _, rfl⟩
          | mu _ _ _ _ r => cases r; exact ⟨_, _, _, rfl⟩
        | mu _ _ _ _ r => cases r with
          | pu _ r => cases r; exact ⟨_, _, _, rfl⟩
          | mu _ _ _ _ r => cases r; exact ⟨_, _, _, rfl⟩
      | mu _ _ _ _ r => cases r with
        | pu _ r => cases r with
          | pu _ r => cases r; exact ⟨_, _, _, rfl⟩
          | mu _ _ _ _ r => cases r; exact ⟨_, _, _, rfl⟩
        | mu _ _ _ _ r => cases r with
          | pu _ r => cases r; exact ⟨_, _, _, rfl⟩
          | mu _ _ _ _ r => cases r; exact ⟨_, _, _, rfl⟩
    obtain ⟨S3, qs, r3, hd3⟩ := S2.putU hmi r hd
    obtain ⟨S4, qs4, r4, hd4⟩ := S3.putU hmj r3 hd3
    obtain ⟨S5, _, _, _⟩ := S4.putU hml r4 hd4
    exact ⟨u, v, w, rfl, q2 _ H2 P2 S5 (Ex.refl P2)⟩
  · exact q2.elim
end
end DL
end
section
set_option Elab.async false
set_option linter.all false
set_option maxRecDepth 100000
namespace DL
open PySem L2 Evl

section
variable {X : Cx} {W : WX} {En : Ent} {e a b c tg ie ve : Expr} {es : List Expr} {st : Stmt} {sts sts2 : List Stmt} {pos p1 p2 p3 apos cpos : Pos} {f fa fb fc fi fv : Ga → R (Res × Ga)} {g : Ga → R (List Res × Ga)} {h h1 h2 : Ga → R (Fl × Ga)}

/-! ### x[i] = v, x a slot of one's own -/
def dStore (a i d : D) : Option D := match a with
  | .lst xs => match i with
    | .int i => match ixN xs.length i with
      | some j => some (.lst (xs.set j d))
      | none => none
    | _ => none
  | .dct t ks vs => match i.key with
    | some k => if k.isT = t ∧ ks.length < sizeLine then some (.dct t (dPutK ks k) (dPutV ks vs k d)) else none
    | none => none
  | _ => none
def rSetA : TSet := fun o i v H Q => rSetL o i v H Q ∨ rSetD o i v H Q
theorem set_all (hu : X.A.units + 1 < cLine) : PSet X rSetA := by
  intro pins s σ H o i v ov iv u Q I ro ri rv h
  rcases h with h | h
  · exact set_list pins s σ H o i v ov iv u Q I ro ri rv h
  · exact set_dict hu pins s σ H o i v ov iv u Q I ro ri rv h
theorem store_go {P H : Hp} {a i d new : D} {l : Addr} {iv v : V} {Q : Hp → Prop} (e : Ex P H) (ow : Own X.K X.mg P H a l) (ri : RepW X.K X.mg P H i iv) (rd : Rep X.K X.mg P d v) (hs : dStore a i d = some new)
    (q : ∀ o, Own X.K X.mg P (upd H l o) new l → Q (upd H l o)) : rSetA (.ref l) iv v H Q := by
  rcases ow with ⟨ds, vs, rfl, h, r⟩ | ⟨ks, ds, kvs, rfl, h, k, r⟩ | ⟨ks, ds, kvs, rfl, h, k, r⟩
  · cases ri <;> simp only [dStore, reduceCtorEq] at hs
    rename_i n
    cases e1 : ixN ds.length n with
    | none => rw [e1] at hs; cases hs
    | some j =>
      rw [e1] at hs; cases hs
      exact .inl ⟨l, vs, n, j, rfl, rfl, h, by rw [← r.length]; exact e1, q _ (.inl ⟨_, _, rfl, upd_same, r.set rd j⟩)⟩
  · simp only [dStore] at hs
    cases e1 : i.key with
    | none => rw [e1] at hs; cases hs
    | some kk =>
      rw [e1] at hs
      simp only [Option.ite_none_right_eq_some, Option.some.injEq] at hs
      obtain ⟨⟨hb, hl⟩, rfl⟩ := hs
      have := dput_of (K := X.K) (mg := X.mg) e e1 ri (hb.symm ▸ .inr (.inl ⟨ks, ds, kvs, rfl, h, k, r⟩) : Own X.K X.mg P H (.dct kk.isT ks ds) l) hl rd
      rw [hb] at this
      obtain ⟨o, g, ow⟩ := this
      exact .inr ⟨l, _, rfl, g, q o ow⟩
  · simp only [dStore] at hs
    cases e1 : i.key with
    | none => rw [e1] at hs; cases hs
    | some kk =>
      rw [e1] at hs
      simp only [Option.ite_none_right_eq_some, Option.some.injEq] at hs
      obtain ⟨⟨hb, hl⟩, rfl⟩ := hs
      have := dput_of (K := X.K) (mg := X.mg) e e1 ri (hb.symm ▸ .inr (.inr ⟨ks, ds, kvs, rfl, h, k, r⟩) : Own X.K X.mg P H (.dct kk.isT ks ds) l) hl rd
      rw [hb] at this
      obtain ⟨o, g, ow⟩ := this
      exact .inr ⟨l, _, rfl, g, q o ow⟩
def sStore (i : Nat) (fi fv : Ga → R (Res × Ga)) : Ga → R (Fl × Ga) := fun γ => fv γ >>= fun v => valOf v.1 >>= fun d => muAt v.2 i >>= fun _ => fi v.2 >>= fun k => deref k.2 k.1 >>= fun x => muAt k.2 i >>= fun a => ofO (dStore a x d) >>= fun a' => .ok (.next, k.2.set i (.mu a'))
theorem es_store {i : Nat} {x : Str} (hu : X.A.units + 64 < cLine) (ho : PE X (.Name x p1) (tVar i)) (hi : Ev X W En ie fi) (hv : Ev X W En ve fv) (hs : swapsWithSole [.Subscript (.Name x p1) ie p2] ve pos.line X.env = pure false := by rfl)
    (hw : swappedStores [.Subscript (.Name x p1) ie p2] ve X.env = pure none := by rfl) (h1 : (assignEach [.Subscript (.Name x p1) ie p2] X.env).map (·.2) = [assign (.Subscript (.Name x p1) ie p2) X.env] := by rfl)
    (ha : ∀ v, assign (.Subscript (.Name x p1) ie p2) X.env v = (do
      let ov ← holding [v] (eval (.Name x p1) X.env)
      let iv ← holding [v, ov] (eval ie X.env)
      standAt p2
      holding [v, ov, iv] (setItem ov iv v)
      release [v, ov, iv] []) := by intro _; rfl) : EvS X W En (.Assign [.Subscript (.Name x p1) ie p2] ve pos) (sStore i fi fv) := by
  obtain ⟨ti, pi, hi⟩ := hi
  obtain ⟨tv, pv', hv⟩ := hv
  refine ⟨_, ps_asg pv' (pg_sub ho pi (set_all (hu1 hu)) ha) hs hw h1, fun σ H P γ D S q => ?_⟩
  refine stm_go (rep := repE X) (k := fun r γ => valOf r >>= fun d => muAt γ i >>= fun _ => fi γ >>= fun k => deref k.2 k.1 >>= fun x => muAt k.2 i >>= fun a => ofO (dStore a x d) >>= fun a' => .ok (.next, k.2.set i (.mu a')))
    (R' := fun v H1 => gSub (tVar i) ti rSetA v σ H1 D.nx) hv S q fun P2 H2 γ2 r v S2 x2 rv q2 => ?_
  cases r with
  | cell j => exact q2.elim
  | val d =>
    have rv : Rep X.K X.mg P2 d v := rv
    change PostS X W En P2 D (muAt γ2 i >>= fun _ => fi γ2 >>= fun k => deref k.2 k.1 >>= fun x => muAt k.2 i >>= fun a => ofO (dStore a x d) >>= fun a' => .ok (.next, k.2.set i (.mu a'))) at q2
    rcases (muAt_cases γ2 i).symm with e1 | ⟨a0, e1, e2⟩
    · rw [e1] at q2; exact q2.elim
    rw [e1, R.ok_bind] at q2
    obtain ⟨l0, e0, _⟩ := S2.mu i a0 e2
    refine ⟨.ref l0, e0, ?_⟩
    refine stm_go (rep := repE X) (k := fun r γ => deref γ r >>= fun x => muAt γ i >>= fun a => ofO (dStore a x d) >>= fun a' => .ok (.next, γ.set i (.mu a'))) (R' := fun iv H2 => rSetA (.ref l0) iv v H2 fun H3 => D.nx σ H3) hi S2 q2 fun P3 H3 γ3 r v3 S3 x3 rv3 q3 => ?_
    rcases deref_cases γ3 r with ⟨k, e1⟩ | e1
    · rw [e1, R.ok_bind] at q3
      rcases muAt_cases γ3 i with ⟨a, e2, e3⟩ | e2
      · rw [e2, R.ok_bind] at q3
        obtain ⟨l, g1, g2, g3, g4⟩ := S3.mu i a e3
        rw [e0] at g1; cases g1
        rcases ofO_cases (dStore a k d) with ⟨new, e4, e5⟩ | e4
        · rw [e5, R.ok_bind] at q3
          exact store_go S3.sub g3 (S3.w rv3 e1) (rv.mono x3) e4 fun o ow => q3 σ _ P3 (S3.mut e3 e0 ow).1 (Ex.refl P3)
        · rw [e4] at q3; exact q3.elim
      · rw [e2] at q3; exact q3.elim
    · rw [e1] at q3; exact q3.elim
/-! ### x op= e, a name -/
def sAug (i : Nat) (F : D → D → Option D) (f : Ga → R (Res × Ga)) : Ga → R (Fl × Ga) := fun γ => match γ[i]? with
  | some (.pu a) => f γ >>= fun p => deref p.2 p.1 >>= fun b => ofO (F a b) >>= fun d => .ok (.next, p.2.set i (.pu d))
  | _ => .no
theorem es_aug {i : Nat} {x : Str} {op : Operator} {r : R2} {F : D → D → Option D} (hN : X.N.Nodup) (hi : X.N[i]? = some x) (hx : Loc X.env.scope x) (ho : OpR X (inplaceOp op) r) (hs : OpS X r F) (he : Ev X W En e f) (hf : X.fn x = true ∨ X.env.scope.names.lookup x = some .local := by first | exact .inl rfl | exact .inr rfl | assumption) :
    EvS X W En (.AugAssign (.Name x p1) op e pos) (sAug i F f) := by
  obtain ⟨t, p, he⟩ := he
  refine ⟨_, ps_aug hN hi hx p (ti := r) (fun pins s σ H x y v u Q I r1 r2 h => ho pins s σ H x y v u Q I r1 r2 h) hf, fun σ H P γ D S q => ?_⟩
  unfold sAug at q
  split at q
  · rename_i a ha
    obtain ⟨v, h1, h2⟩ := S.pu i a ha
    refine ⟨v, h1, stm_go (rep := repE X) (k := fun r γ => deref γ r >>= fun b => ofO (F a b) >>= fun d => .ok (.next, γ.set i (.pu d))) (R' := fun y H1 => r v y H1 fun z H2 => D.nx (σ.set i (some z)) H2) he S q fun P2 H2 γ2 rr y S2 x2 rv q2 => ?_⟩
    rcases deref_cases γ2 rr with ⟨b, e1⟩ | e1
    · rw [e1, R.ok_bind] at q2
      rcases ofO_cases (F a b) with ⟨d, e2, e3⟩ | e2
      · rw [e3, R.ok_bind] at q2
        exact hs P2 H2 v y a b d _ S2.sub (Rep.w S2.sub (h2.mono x2)) (S2.w rv e1) e2 fun z H' P' g rz => q2 _ H' P' ((S2.gr g).put rz) g.p
      · rw [e2] at q2; exact q2.elim
    · rw [e1] at q2; exact q2.elim
  · exact q.elim
def rIAddP : R2 := fun x y H Q => rI0 (fun i j => .int (i + j)) x y H Q ∨ rAddS x y H Q
theorem iop_addP : OpR X (inplaceOp .Add) rIAddP := iop_add.or iop_add_str
def dIAdd (a b : D) : Option D := match a, b with
  | .int i, .int j => some (.int (i + j))
  | .str x, .str y => if x.length + y.length ≤ sizeLine then some (.str (x ++ y)) else none
  | _, _ => none
theorem os_iadd : OpS X rIAddP dIAdd := fun P H x y a b d Q e h1 h2 hf q => by
  cases h1 <;> cases h2 <;> simp only [dIAdd, Option.some.injEq, reduceCtorEq, Option.ite_none_right_eq_some] at hf
  · subst hf; exact .inl ⟨_, _, rfl, rfl, q _ _ _ (.here e) (.int _)⟩
  · obtain ⟨hz, rfl⟩ := hf
    refine .inr ⟨_, _, rfl, rfl, by rw [len_strV, len_strV]; exact hz, ?_⟩
    rw [strV_app]; exact q _ _ _ (.here e) (.str _ (by simpa using hz))
/-- d[k] op= e, d a dict of one's own -/
def sAugD (i : Nat) (F : D → D → Option D) (fi fv : Ga → R (Res × Ga)) : Ga → R (Fl × Ga) := fun γ => muAt γ i >>= fun _ => fi γ >>= fun k => muAt k.2 i >>= fun a => deref k.2 k.1 >>= fun x => ofO (dIx a x) >>= fun old => fv k.2 >>= fun v =>
  deref v.2 v.1 >>= fun b => ofO (F old b) >>= fun new => deref v.2 k.1 >>= fun x => muAt v.2 i >>= fun a => ofO (dStore a x new) >>= fun a' => .ok (.next, v.2.set i (.mu a'))

/-! ### while -/
noncomputable def loopW (g : Ga → R (Bool × Ga)) (h : Ga → R (Fl × Ga)) (n : Nat) : Ga → R (Fl × Ga) :=
  Nat.rec (fun _ => .no) (fun _ ih γ => g γ >>= fun p => if p.1 = true then h p.2 >>= fun q => match q.1 with
    | .next => ih q.2
    | .cont => ih q.2
    | .brk => .ok (.next, q.2)
    | .ret d => .ok (.ret d, q.2) else .ok (.next, p.2)) n
theorem loopW_zero (g : Ga → R (Bool × Ga)) (h : Ga → R (Fl × Ga)) (γ : Ga) : loopW g h 0 γ = .no := rfl
theorem loopW_succ (g : Ga → R (Bool × Ga)) (h : Ga → R (Fl × Ga)) (n : Nat) (γ : Ga) : loopW g h (n + 1) γ = (g γ >>= fun p => if p.1 = true then h p.2 >>= fun q => match q.1 with
    | .next => loopW g h n q.2
    | .cont => loopW g h n q.2
    | .brk => .ok (.next, q.2)
    | .ret d => .ok (.ret d, q.2) else .ok (.next, p.2)) := rfl
/-- how often a loop may turn -/
abbrev fuel : Nat := 1000000
noncomputable def sWhile (g : Ga → R (Bool × Ga)) (h : Ga → R (Fl × Ga)) : Ga → R (Fl × Ga) := loopW g h fuel
theorem es_while {gt : Ga → R (Bool × Ga)} (hp : PassesOwn (model X.prog X.w) X.A X.env X.xe) (hc : EvT X W En c gt) (hb : EvSs X W En sts h) : EvS X W En (.While c sts [] pos) (sWhile gt h) := by
  obtain ⟨tc, pc, hc⟩ := hc
  obtain ⟨tb, pb, hb⟩ := hb
  refine ⟨_, ps_while hp pc pb, fun σ H P γ D S q => ?_⟩
  refine ⟨fun m σ H => ∃ P γ, Sat X.K X.mg En P σ H γ ∧ PostS X W En P D (loopW gt h m γ), ⟨fuel, P, γ, S, q⟩, ?_⟩
  rintro m σ1 H1 ⟨P1, γ1, S1, q1⟩
  cases m with
  | zero => exact q1.elim
  | succ m =>
    rw [loopW_succ] at q1
    refine stm_go (rep := repT) (k := fun b γ => if b = true then h γ >>= fun q => match q.1 with
      | .next => loopW gt h m q.2
      | .cont => loopW gt h m q.2
      | .brk => .ok (.next, q.2)
      | .ret d => .ok (.ret d, q.2) else .ok (.next, γ)) (R' := fun b H1 => if b = true then ∃ N : L2.St → Hp → Prop, (∀ σ' H', N σ' H' → ∃ m', m' < m + 1 ∧ ∃ P γ, Sat X.K X.mg En P σ' H' γ ∧ PostS X W En P D (loopW gt h m' γ)) ∧ tb { D with nx := N, ct := N, bk := D.nx } σ1 H1 else D.nx σ1 H1)
      hc S1 q1 fun P2 H2 γ2 r v S2 x rv q2 => ?_
    have rv : r = v := rv
    subst rv
    cases r with
    | false => exact q2 σ1 H2 P2 S2 (Ex.refl P2)
    | true =>
      refine ⟨fun σ' H' => ∃ P γ, Sat X.K X.mg En P σ' H' γ ∧ PostS X W En P D (loopW gt h m γ), fun σ' H' n => ⟨m, Nat.lt_succ_self m, n⟩, hb σ1 H2 P2 γ2 _ S2 ?_⟩
      change PostS X W En P2 D (h γ2 >>= fun q => match q.1 with
        | .next => loopW gt h m q.2
        | .cont => loopW gt h m q.2
        | .brk => .ok (.next, q.2)
        | .ret d => .ok (.ret d, q.2)) at q2
      cases eh : h γ2 with
      | no => rw [eh] at q2; exact q2
      | exc c => rw [eh] at q2; exact q2
      | ok r =>
        obtain ⟨fl, γ3⟩ := r
        rw [eh, R.ok_bind] at q2
        cases fl with
        | next => exact fun σ' H' P' S' x => ⟨P', γ3, S', q2.later x⟩
        | cont => exact fun σ' H' P' S' x => ⟨P', γ3, S', q2.later x⟩
        | brk => exact q2
        | ret d => exact q2
end
end DL
end
section
set_option Elab.async false
set_option linter.all false
set_option maxRecDepth 100000
namespace DL
open PySem L2 Evl PySem.Spec PyProof.Rows

section
variable {X : Cx} {W : WX} {En : Ent} {e a b c tg iter : Expr} {es : List Expr} {st : Stmt} {sts sts2 : List Stmt} {pos p1 p2 p3 apos cpos p : Pos} {f fa fb fc fi fv : Ga → R (Res × Ga)} {g : Ga → R (List Res × Ga)} {h h1 h2 : Ga → R (Fl × Ga)}

/-! ### what is walked -/
def ItemsOf (K : PySem.W.Frag) (mg : Str → Option Value) (J : It) (ds : List D) (P : Hp) : Prop :=
  (∀ (i : Nat) d, ds[i]? = some d → ∀ P1 H1, Ex P P1 → Ex P1 H1 → J.go i H1 ∧ ∀ x H2, J.yld i H1 x H2 → ∃ P2, Gr P1 H1 P2 H2 ∧ Rep K mg P2 d x) ∧ (∀ P1 H1, Ex P P1 → Ex P1 H1 → J.stop ds.length H1)
abbrev repI (X : Cx) : Hp → Hp → Hp → L2.St → List D → It → Prop := fun _ P' _ _ ds J => ItemsOf X.K X.mg J ds P'
def EvI (X : Cx) (W : WX) (En : Ent) (tg iter : Expr) (f : Ga → R (List D × Ga)) : Prop :=
  ∃ w : TI, PI X tg iter w ∧ ∀ σ H P γ R, Sat X.K X.mg En P σ H γ → PostG X W En (repI X) σ P H γ R (f γ) → w σ H R
theorem items_lst {K : PySem.W.Frag} {mg : Str → Option Value} {P : Hp} {a : Addr} {ds : List D} {vs : List V} (h : SqL K P a vs) (r : RepL K mg P ds vs) : ItemsOf K mg (Itl K a) ds P := by
  refine ⟨fun i d hd P1 H1 e1 e2 => ?_, fun P1 H1 e1 e2 => ⟨vs, ex_l (e1.trans e2) h, by rw [r.length]; exact Nat.le_refl _⟩⟩
  obtain ⟨v, h1, h2⟩ := r.get hd
  refine ⟨⟨vs, v, ex_l (e1.trans e2) h, h1⟩, fun x H2 ⟨e, y⟩ => ?_⟩
  subst e
  have := y vs (ex_l (e1.trans e2) h)
  rw [h1] at this; cases this
  exact ⟨P1, .refl e2, h2.mono e1⟩
theorem items_tup {K : PySem.W.Frag} {mg : Str → Option Value} {P : Hp} {a : Addr} {ds : List D} {vs : List V} (h : SqT K P a vs) (r : RepL K mg P ds vs) : ItemsOf K mg (Itt K a) ds P := by
  refine ⟨fun i d hd P1 H1 e1 e2 => ?_, fun P1 H1 e1 e2 => ⟨vs, ex_t (e1.trans e2) h, by rw [r.length]; exact Nat.le_refl _⟩⟩
  obtain ⟨v, h1, h2⟩ := r.get hd
  refine ⟨⟨vs, v, ex_t (e1.trans e2) h, h1⟩, fun x H2 ⟨e, y⟩ => ?_⟩
  subst e
  have := y vs (ex_t (e1.trans e2) h)
  rw [h1] at this; cases this
  exact ⟨P1, .refl e2, h2.mono e1⟩
def signs (s : List Nat) : List D := s.map fun c => .str [c]
theorem items_str {K : PySem.W.Frag} {mg : Str → Option Value} {P : Hp} {s : List Nat} : ItemsOf K mg (Its (strV s)) (signs s) P := by
  have hs : (strV s).cps.size = s.length := by simp [strV]
  refine ⟨fun i d hd P1 H1 e1 e2 => ?_, fun P1 H1 e1 e2 => by show (strV s).cps.size ≤ _; rw [hs]; simp [signs]⟩
  unfold signs at hd
  rw [List.getElem?_map] at hd
  cases e : s[i]? with
  | none => rw [e] at hd; cases hd
  | some c =>
    rw [e] at hd; cases hd
    have hi := (List.getElem?_eq_some_iff.mp e).1
    refine ⟨by show i < (strV s).cps.size; rw [hs]; exact hi, fun x H2 ⟨q, c', hc, hx⟩ => ?_⟩
    subst q hx
    have : c' = c := by
      have h2 : (strV s).cps[i]? = s[i]? := by simp [strV]
      rw [h2, e] at hc; cases hc; rfl
    subst this
    exact ⟨P1, .refl e2, .str [c'] (by show 1 ≤ sizeLine; rw [sizeLine_eq]; decide)⟩
theorem items_rng {K : PySem.W.Frag} {mg : Str → Option Value} {P : Hp} {lo : Int} {n : Nat} : ItemsOf K mg (Itr lo n) ((List.range n).map fun (i : Nat) => D.int (lo + (i : Int))) P := by
  refine ⟨fun i d hd P1 H1 e1 e2 => ?_, fun P1 H1 e1 e2 => by show n ≤ _; simp⟩
  rw [List.getElem?_map] at hd
  cases e : (List.range n)[i]? with
  | none => rw [e] at hd; cases hd
  | some c =>
    rw [e] at hd; cases hd
    have hi := (List.getElem?_eq_some_iff.mp e).1
    rw [List.length_range] at hi
    have : c = i := by rw [List.getElem?_range hi] at e; cases e; rfl
    subst this
    exact ⟨hi, fun x H2 ⟨q, hx⟩ => by subst q hx; exact ⟨P1, .refl e2, .int _⟩⟩
theorem items_rngC {K : PySem.W.Frag} {mg : Str → Option Value} {P : Hp} {lo c : Int} {n : Nat} : ItemsOf K mg (Itc lo c n) ((List.range n).map fun (i : Nat) => D.int (lo + (i : Int) * c)) P := by
  refine ⟨fun i d hd P1 H1 e1 e2 => ?_, fun P1 H1 e1 e2 => by show n ≤ _; simp⟩
  rw [List.getElem?_map] at hd
  cases e : (List.range n)[i]? with
  | none => rw [e] at hd; cases hd
  | some c' =>
    rw [e] at hd; cases hd
    have hi := (List.getElem?_eq_some_iff.mp e).1
    rw [List.length_range] at hi
    have : c' = i := by rw [List.getElem?_range hi] at e; cases e; rfl
    subst this
    exact ⟨hi, fun x H2 ⟨q, hx⟩ => by subst q hx; exact ⟨P1, .refl e2, .int _⟩⟩
/-- a list, a tuple, a text -/
def iAny (K : PySem.W.Frag) (te : TE) : TI := fun σ H R => te σ H fun x H1 => (∃ a, x = .ref a ∧ (∃ xs, SqL K H1 a xs) ∧ R (Itl K a) H1) ∨ (∃ a, x = .ref a ∧ (∃ xs, SqT K H1 a xs) ∧ R (Itt K a) H1) ∨ ∃ z, x = .str z ∧ R (Its z) H1
theorem pi_any {te : TE} (he : PE X e te) : PI X tg e (iAny X.K te) := by
  refine ⟨fun pins s σ H R I h => ?_⟩
  refine thn (he.run pins s σ H _ I h) fun v s1 ⟨y, H1, I1, r1, q⟩ => ?_
  rcases q with ⟨a, ey, ⟨xs, hq⟩, q⟩ | ⟨a, ey, ⟨xs, hq⟩, q⟩ | ⟨x, ey, q⟩
  · subst ey
    obtain rfl : v = Value.ref a := r1
    obtain ⟨its, rv, p, hz⟩ := I1.list hq
    refine wpAny_pyIter_list p.isList ?_
    refine ⟨s1.heap.objs.size, [s1.heap.objs.size], _, _, H1, rfl, I1.kept (t' := s1.toks) fun b o e => Heap.get?_push_of_some _ e, turn_list a _, ⟨_, Heap.get?_push_size _ rfl, rfl, rfl⟩, fun b hb => ?_, q⟩
    have e : b = s1.heap.objs.size := by simpa using hb
    subst e
    exact I1.fpOk (Nat.le_refl _) (I1.hok.fresh (Nat.le_refl _))
  · subst ey
    obtain rfl : v = Value.ref a := r1
    obtain ⟨its, rv, p, hz⟩ := I1.tuple hq
    refine wpAny_pyIter_tuple (show s1.heap.IsTuple a its.toArray from p) ?_
    refine ⟨s1.heap.objs.size, [s1.heap.objs.size], _, _, H1, rfl, I1.kept (t' := s1.toks) fun b o e => Heap.get?_push_of_some _ e, turn_tuple a _, ⟨_, Heap.get?_push_size _ rfl, rfl, rfl⟩, fun b hb => ?_, q⟩
    have e : b = s1.heap.objs.size := by simpa using hb
    subst e
    exact I1.fpOk (Nat.le_refl _) (I1.hok.fresh (Nat.le_refl _))
  · subst ey
    obtain ⟨t, rfl⟩ := r1
    cases ha : x.cps.all (· < 128)
    · exact wpAny_pyIter_wide ha (pi_one (tk := s1.toks) I1 _ (turn_str _ x t "str_iterator" (.inr rfl)) ⟨_, Heap.get?_push_size _ rfl, rfl, rfl⟩ q)
    · exact wpAny_pyIter_ascii ha (pi_one (tk := s1.toks) I1 _ (turn_str _ x t "str_ascii_iterator" (.inl rfl)) ⟨_, Heap.get?_push_size _ rfl, rfl, rfl⟩ q)
/-- the items of a value -/
def itemsD : D → Option (List D)
  | .lst ds => some ds
  | .tup ds => some ds
  | .scr ds => some ds
  | .str s => some (signs s)
  | _ => none
def iVal (f : Ga → R (Res × Ga)) : Ga → R (List D × Ga) := fun γ => f γ >>= fun p => valOf p.1 >>= fun d => ofO (itemsD d) >>= fun ds => .ok (ds, p.2)
theorem ei_val (he : Ev X W En e f) : EvI X W En tg e (iVal f) := by
  obtain ⟨t, p, he⟩ := he
  refine ⟨_, pi_any p, fun σ H P γ Rr S q => he σ H P γ _ S ?_⟩
  unfold iVal at q
  cases e1 : f γ with
  | no => rw [e1] at q; exact q
  | exc c => rw [e1] at q; exact q
  | ok r =>
    obtain ⟨r, γ1⟩ := r
    rw [e1, R.ok_bind] at q
    intro v H1 P1 S1 T1 rv
    cases r with
    | cell i => exact q.elim
    | val d =>
      have rv : Rep X.K X.mg P1 d v := rv
      cases rv with
      | lst hl r => exact .inl ⟨_, rfl, ⟨_, .of (S1.sub _ _ hl)⟩, q _ H1 P1 S1 T1 (items_lst (.of hl) r)⟩
      | tup hl r => exact .inr (.inl ⟨_, rfl, ⟨_, .of (S1.sub _ _ hl)⟩, q _ H1 P1 S1 T1 (items_tup (.of hl) r)⟩)
      | scr hl r => exact .inl ⟨_, rfl, ⟨_, ex_l S1.sub hl⟩, q _ H1 P1 S1 T1 (items_lst hl r)⟩
      | str s hs => exact .inr (.inr ⟨_, rfl, q _ H1 P1 S1 T1 items_str⟩)
      | _ => exact q.elim
end
end DL
end
section
set_option Elab.async false
set_option linter.all false
set_option maxRecDepth 100000
namespace DL
open PySem L2 Evl PySem.Spec PyProof.Rows

section
variable {X : Cx} {W : WX} {En : Ent} {e a b c tg iter : Expr} {es : List Expr} {st : Stmt} {sts sts2 : List Stmt} {pos p1 p2 p3 apos cpos p : Pos} {f fa fb fc fi fv : Ga → R (Res × Ga)} {g : Ga → R (List Res × Ga)} {h h1 h2 : Ga → R (Fl × Ga)}
theorem hrepI : ∀ (H H1 P' H' : Hp) (σ : L2.St) (a : List D) (b : It), (∀ x, H x ≠ none → H1 x ≠ none) → repI X H1 P' H' σ a b → repI X H P' H' σ a b := fun _ _ _ _ _ _ _ _ h => h
/-- lo, lo + 1, .. -/
def rng (lo : Int) (n : Nat) : List D := (List.range n).map fun (i : Nat) => D.int (lo + (i : Int))
def rngC (lo c : Int) (n : Nat) : List D := (List.range n).map fun (i : Nat) => D.int (lo + (i : Int) * c)
def okI (i : Int) : Bool := decide (-(2 ^ 62) ≤ i) && decide (i < 2 ^ 62)
theorem okI_of {i : Int} (h : okI i = true) : -(2 ^ 62) ≤ i ∧ i < 2 ^ 62 := by
  unfold okI at h
  simp only [Bool.and_eq_true, decide_eq_true_eq] at h
  exact h
def rangeD1 : List D → Option (List D)
  | [.int j] => if okI j then some (rng 0 j.toNat) else none
  | _ => none
def rangeD2 : List D → Option (List D)
  | [.int i, .int j] => if okI i && okI j then some (rng i (j - i).toNat) else none
  | _ => none
def rangeD3 : List D → Option (List D)
  | [.int i, .int j, .int c] => if okI i && okI j && decide (c = -1) then some (rngC i (-1) (i - j).toNat) else none
  | _ => none
def iRange (F : List D → Option (List D)) (g : Ga → R (List Res × Ga)) : Ga → R (List D × Ga) := fun γ => g γ >>= fun p => derefs p.2 p.1 >>= fun ds => ofO (F ds) >>= fun xs => .ok (xs, p.2)
theorem RepWs.one {K : PySem.W.Frag} {mg : Str → Option Value} {P H : Hp} {d : D} {vs : List V} (h : RepWs K mg P H [d] vs) : ∃ v, vs = [v] ∧ RepW K mg P H d v := by
  cases h with
  | cons h r => cases r; exact ⟨_, rfl, h⟩
theorem RepWs.two {K : PySem.W.Frag} {mg : Str → Option Value} {P H : Hp} {d d2 : D} {vs : List V} (h : RepWs K mg P H [d, d2] vs) : ∃ v w, vs = [v, w] ∧ RepW K mg P H d v ∧ RepW K mg P H d2 w := by
  cases h with
  | cons h r => obtain ⟨w, rfl, h2⟩ := r.one; exact ⟨_, _, rfl, h, h2⟩
theorem RepWs.three {K : PySem.W.Frag} {mg : Str → Option Value} {P H : Hp} {d d2 d3 : D} {vs : List V} (h : RepWs K mg P H [d, d2, d3] vs) : ∃ v w u, vs = [v, w, u] ∧ RepW K mg P H d v ∧ RepW K mg P H d2 w ∧ RepW K mg P H d3 u := by
  cases h with
  | cons h r => obtain ⟨w, u, rfl, h2, h3⟩ := r.two; exact ⟨_, _, _, rfl, h, h2, h3⟩
theorem rng_go {F : List D → Option (List D)} {t : TA} {Rr : It → Hp → Prop} (h : ∀ σ H P γ Q, Sat X.K X.mg En P σ H γ → PostG X W En (repA X) σ P H γ Q (g γ) → t σ H Q) {σ : L2.St} {H P : Hp} {γ : Ga} (S : Sat X.K X.mg En P σ H γ) (q : PostG X W En (repI X) σ P H γ Rr (iRange F g γ))
    {R' : List V → Hp → Prop} (hk : ∀ P2 H2 ds vs xs, RepWs X.K X.mg P2 H2 ds vs → F ds = some xs → (∀ J, ItemsOf X.K X.mg J xs P2 → Rr J H2) → R' vs H2) : t σ H R' :=
  args_go (rep := repI X) (k := fun rs γ => derefs γ rs >>= fun ds => ofO (F ds) >>= fun xs => .ok (xs, γ)) h hrepI S q fun P2 H2 γ2 rs vs S2 T2 r q2 => by
    rcases derefs_cases γ2 rs with ⟨ds, e⟩ | e
    · rw [e, R.ok_bind] at q2
      rcases ofO_cases (F ds) with ⟨xs, e2, e'⟩ | e2
      · rw [e', R.ok_bind] at q2
        exact hk P2 H2 ds vs xs (S2.ws r e) e2 fun J hJ => q2 J H2 P2 S2 .refl hJ
      · rw [e2] at q2; exact q2.elim
    · rw [e] at q2; exact q2.elim
theorem RepW.int_inv {K : PySem.W.Frag} {mg : Str → Option Value} {P H : Hp} {i : Int} {v : V} (h : RepW K mg P H (.int i) v) : v = .int i := by cases h; rfl
theorem ei_range1 (hg : Gl X "range") (hm : X.mg "range" = none) (ha : EvA X W En [a] g) (hs : starEach [a] X.env = [(false, eval a X.env)] := by rfl) : EvI X W En tg (.Call (.Name "range" p) [a] [] pos) (iRange rangeD1 g) := by
  obtain ⟨t, pa, h⟩ := ha
  refine ⟨_, pi_range1 hg hm pa hs, fun σ H P γ Rr S q => rng_go h S q fun P2 H2 ds vs xs r e k => ?_⟩
  unfold rangeD1 at e
  split at e
  · rename_i j
    simp only [Option.ite_none_right_eq_some, Option.some.injEq] at e
    obtain ⟨hj, rfl⟩ := e
    obtain ⟨v, rfl, r1⟩ := r.one
    have hj := okI_of hj
    exact ⟨j, by rw [r1.int_inv], hj.1, hj.2, k _ items_rng⟩
  · cases e
theorem ei_range2 (hg : Gl X "range") (hm : X.mg "range" = none) (ha : EvA X W En [a, b] g) (hs : starEach [a, b] X.env = [(false, eval a X.env), (false, eval b X.env)] := by rfl) (hs2 : starEach [b] X.env = [(false, eval b X.env)] := by rfl) : EvI X W En tg (.Call (.Name "range" p) [a, b] [] pos) (iRange rangeD2 g) := by
  obtain ⟨t, pa, h⟩ := ha
  refine ⟨_, pi_range2 hg hm pa hs hs2, fun σ H P γ Rr S q => rng_go h S q fun P2 H2 ds vs xs r e k => ?_⟩
  unfold rangeD2 at e
  split at e
  · rename_i i j
    simp only [Option.ite_none_right_eq_some, Option.some.injEq, Bool.and_eq_true] at e
    obtain ⟨⟨hi, hj⟩, rfl⟩ := e
    obtain ⟨v, w, rfl, r1, r2⟩ := r.two
    have hj := okI_of hj
    have hi := okI_of hi
    exact ⟨i, j, by rw [r1.int_inv, r2.int_inv], ⟨hi.1, hi.2, hj.1, hj.2⟩, k _ items_rng⟩
  · cases e
theorem ei_range3 (hg : Gl X "range") (hm : X.mg "range" = none) (ha : EvA X W En [a, b, c] g) (hs : starEach [a, b, c] X.env = (false, eval a X.env) :: starEach [b, c] X.env := by rfl) (hpl : (backTo pos (starEach [b, c] X.env)).any (·.1) = false := by rfl) : EvI X W En tg (.Call (.Name "range" p) [a, b, c] [] pos) (iRange rangeD3 g) := by
  obtain ⟨t, pa, h⟩ := ha
  refine ⟨_, pi_range3 hg hm pa hs hpl, fun σ H P γ Rr S q => rng_go h S q fun P2 H2 ds vs xs r e k => ?_⟩
  unfold rangeD3 at e
  split at e
  · rename_i i j c
    simp only [Option.ite_none_right_eq_some, Option.some.injEq, Bool.and_eq_true, decide_eq_true_eq] at e
    obtain ⟨⟨⟨hi, hj⟩, rfl⟩, rfl⟩ := e
    obtain ⟨v, w, u, rfl, r1, r2, r3⟩ := r.three
    have hj := okI_of hj
    have hi := okI_of hi
    exact ⟨i, j, -1, _, by rw [r1.int_inv, r2.int_inv, r3.int_inv], RgC.neg hi.1 hi.2 hj.1 hj.2, k _ items_rngC⟩
  · cases e

/-! ### dicts, walked -/
def DK.d : DK → D
  | .i n => .int n
  | .s x => .str x
  | .t ks => .tup (ks.map fun k => match k with | Sum.inl n => D.int n | Sum.inr z => D.str z)
end
end DL
end
section
set_option Elab.async false
set_option linter.all false
set_option maxRecDepth 100000
namespace DL
open PySem L2 Evl PySem.Spec PyProof.Rows

section
variable {X : Cx} {W : WX} {En : Ent} {e a b c tg iter : Expr} {es : List Expr} {st : Stmt} {sts sts2 : List Stmt} {pos p1 p2 p3 apos cpos p : Pos} {f fa fb fc fi fv : Ga → R (Res × Ga)} {g : Ga → R (List Res × Ga)} {h h1 h2 : Ga → R (Fl × Ga)}

/-! ### for -/
def loopF (b : D → Ga → Option Ga) (h : Ga → R (Fl × Ga)) : List D → Ga → R (Fl × Ga)
  | [], γ => .ok (.next, γ)
  | d :: ds, γ => ofO (b d γ) >>= fun γ1 => h γ1 >>= fun q => match q.1 with
    | .next => loopF b h ds q.2
    | .cont => loopF b h ds q.2
    | .brk => .ok (.next, q.2)
    | .ret d => .ok (.ret d, q.2)
def sFor (fi : Ga → R (List D × Ga)) (b : D → Ga → Option Ga) (h : Ga → R (Fl × Ga)) : Ga → R (Fl × Ga) := fun γ => fi γ >>= fun p => loopF b h p.1 p.2
theorem ofO_ok {α β : Type} {o : Option α} {f : α → R β} {C : R β → Prop} (hn : ¬ C .no) (h : C (ofO o >>= f)) : ∃ a, o = some a ∧ C (f a) := by
  cases o with
  | none => exact absurd h hn
  | some a => exact ⟨a, rfl, h⟩
theorem es_for {js : List Nat} {bd : D → Ga → Option Ga} {it : Ga → R (List D × Ga)} (hp : PassesOwn (model X.prog X.w) X.A X.env X.xe) (hc : X.calm = true) (hi : EvI X W En tg iter it) (hg : EvG X En js tg bd) (hb : EvSs X W En sts h)
    (hs : ∀ x, foldedSetIterable iter X.env x = pure x := by intro _; rfl) : EvS X W En (.For tg iter sts [] pos) (sFor it bd h) := by
  obtain ⟨wi, pi, hi⟩ := hi
  obtain ⟨u, pg, hg⟩ := hg
  obtain ⟨tb, pb, hb⟩ := hb
  refine ⟨_, ps_for hp hc pi pg pb hs, fun σ H P γ D S q => ?_⟩
  refine stm_go (rep := repI X) (k := fun ds γ => loopF bd h ds γ) hi S q fun P0 H0 γ0 ds J S0 e0 items q0 => ?_
  refine ⟨fun i m σ H => ∃ P γ, Ex P0 P ∧ Sat X.K X.mg En P σ H γ ∧ i + m = ds.length ∧ PostS X W En P D (loopF bd h (ds.drop i) γ), ⟨ds.length, P0, γ0, .refl P0, S0, Nat.zero_add _, q0⟩, ?_⟩
  rintro i m σ1 H1 ⟨P1, γ1, e1, S1, hm, q1⟩
  cases m with
  | zero =>
    have hd : ds.drop i = [] := List.drop_eq_nil_of_le (by omega)
    rw [hd] at q1
    refine .inl ⟨?_, q1 σ1 H1 P1 S1 (.refl P1)⟩
    have := items.2 P1 H1 e1 S1.sub
    rw [← hm, Nat.add_zero] at this
    exact this
  | succ m =>
    have hi : i < ds.length := by omega
    have hd : ds.drop i = ds[i] :: ds.drop (i + 1) := List.drop_eq_getElem_cons hi
    rw [hd] at q1
    obtain ⟨hgo, hy⟩ := items.1 i ds[i] (List.getElem?_eq_getElem hi) P1 H1 e1 S1.sub
    refine .inr ⟨hgo, fun σ' H' => ∃ P γ, Ex P0 P ∧ Sat X.K X.mg En P σ' H' γ ∧ PostS X W En P D (loopF bd h (ds.drop (i + 1)) γ), fun σ' H' ⟨P', γ', a, b, c⟩ => ⟨m, Nat.lt_succ_self m, P', γ', a, b, by omega, c⟩, fun x H2 y => ?_⟩
    obtain ⟨P2, g2, r2⟩ := hy x H2 y
    have S2 := S1.gr g2
    obtain ⟨γ3, e3, q3⟩ := ofO_ok (C := PostS X W En P1 D) (fun z => z) q1
    refine hg x _ σ1 H2 P2 γ1 γ3 _ S2 r2 e3 fun σ3 S3 _ => ?_
    have q3 := q3.later g2.p
    refine hb σ3 H2 P2 γ3 _ S3 ?_
    have eP := e1.trans g2.p
    cases eh : h γ3 with
    | no => rw [eh] at q3; exact q3
    | exc c => rw [eh] at q3; exact q3
    | ok r =>
      obtain ⟨fl, γ4⟩ := r
      rw [eh, R.ok_bind] at q3
      cases fl with
      | next => exact fun σ' H' P' S' x => ⟨P', γ4, eP.trans x, S', q3.later x⟩
      | cont => exact fun σ' H' P' S' x => ⟨P', γ4, eP.trans x, S', q3.later x⟩
      | brk => exact q3
      | ret d => exact q3
end

/-! ### a block's own slots, forgotten -/
def wipeG (vs : List Nat) : Nat → Ga → Ga
  | _, [] => []
  | n, s :: r => (if vs.contains n then .un else s) :: wipeG vs (n + 1) r
def unwipe (γ1 : Ga) (vs : List Nat) : Nat → Ga → Ga
  | _, [] => []
  | n, s :: r => (if vs.contains n then (match γ1[n]? with
    | some (.pu d) => .pu d
    | _ => .un) else s) :: unwipe γ1 vs (n + 1) r
theorem wipeG_get {vs : List Nat} : ∀ {γ : Ga} {n i : Nat}, (wipeG vs n γ)[i]? = if vs.contains (n + i) then (γ[i]?).map fun _ => Sl.un else γ[i]?
  | [], n, i => by simp [wipeG]
  | s :: r, n, 0 => by
    simp only [wipeG, Nat.add_zero, List.getElem?_cons_zero]
    split <;> rfl
  | s :: r, n, i + 1 => by
    simp only [wipeG, List.getElem?_cons_succ]
    rw [wipeG_get (γ := r), show n + 1 + i = n + (i + 1) by omega]
theorem unwipe_get {γ1 : Ga} {vs : List Nat} : ∀ {γ : Ga} {n i : Nat}, (unwipe γ1 vs n γ)[i]? = if vs.contains (n + i) then (γ[i]?).map (fun _ => match γ1[n + i]? with
    | some (.pu d) => .pu d
    | _ => .un) else γ[i]?
  | [], n, i => by simp [unwipe]
  | s :: r, n, 0 => by
    simp only [unwipe, Nat.add_zero, List.getElem?_cons_zero]
    split <;> rfl
  | s :: r, n, i + 1 => by
    simp only [unwipe, List.getElem?_cons_succ]
    rw [unwipe_get (γ := r), show n + 1 + i = n + (i + 1) by omega]
theorem wipeG_len {vs : List Nat} : ∀ {γ : Ga} {n : Nat}, (wipeG vs n γ).length = γ.length
  | [], _ => rfl
  | s :: r, n => congrArg (· + 1) (wipeG_len (γ := r))
theorem unwipe_len {γ1 : Ga} {vs : List Nat} : ∀ {γ : Ga} {n : Nat}, (unwipe γ1 vs n γ).length = γ.length
  | [], _ => rfl
  | s :: r, n => congrArg (· + 1) (unwipe_len (γ := r))
section
variable {K : PySem.W.Frag} {mg : Str → Option Value} {En : Ent} {P P1 P2 H H1 H2 : Hp} {σ σ2 : L2.St} {γ γ1 γ2 : Ga} {vs : List Nat}
theorem wipe_len (σ : L2.St) (vs : List Nat) : (wipe σ vs).length = σ.length := wipe_length σ vs
theorem wipeG_mu {i : Nat} {s : Sl} (hs : s ≠ .un) (h : (wipeG vs 0 γ)[i]? = some s) : γ[i]? = some s ∧ i ∉ vs := by
  rw [wipeG_get, Nat.zero_add] at h
  split at h
  · rename_i c
    cases e : γ[i]? with
    | none => rw [e] at h; cases h
    | some t => rw [e] at h; cases h; exact absurd rfl hs
  · rename_i c
    refine ⟨h, fun z => c (by simpa using z)⟩
theorem Sat.wipe (S : Sat K mg En P σ H γ) : Sat K mg En P (L2.wipe σ vs) H (wipeG vs 0 γ) := by
  refine ⟨S.sub, by rw [wipe_len, wipeG_len]; exact S.len, S.old, S.new, S.keep, S.dom, S.tab, S.tabP, fun i d h => ?_, fun i d h => ?_, fun i j d e n h1 h2 => ?_⟩
  · obtain ⟨h, n⟩ := wipeG_mu (by simp) h
    obtain ⟨v, h1, h2⟩ := S.pu i d h
    exact ⟨v, by rw [wipe_out n]; exact h1, h2⟩
  · obtain ⟨h, n⟩ := wipeG_mu (by simp) h
    rw [wipe_out n]
    exact S.mu i d h
  · obtain ⟨h1, n1⟩ := wipeG_mu (by simp) h1
    obtain ⟨h2, n2⟩ := wipeG_mu (by simp) h2
    rw [wipe_out n1, wipe_out n2]
    exact S.ne i j d e n h1 h2
theorem unwipe_mu {i : Nat} {d : D} (h : (unwipe γ1 vs 0 γ)[i]? = some (.mu d)) : γ[i]? = some (.mu d) ∧ i ∉ vs := by
  rw [unwipe_get, Nat.zero_add] at h
  split at h
  · cases e : γ[i]? with
    | none => rw [e] at h; cases h
    | some t =>
      rw [e] at h
      simp only [Option.map_some, Option.some.injEq] at h
      split at h <;> cases h
  · rename_i c
    exact ⟨h, fun z => c (by simpa using z)⟩
theorem unwipe_pu {i : Nat} {d : D} (h : (unwipe γ1 vs 0 γ)[i]? = some (.pu d)) : (γ[i]? = some (.pu d) ∧ i ∉ vs) ∨ γ1[i]? = some (.pu d) := by
  rw [unwipe_get, Nat.zero_add] at h
  split at h
  · cases e : γ[i]? with
    | none => rw [e] at h; cases h
    | some t =>
      rw [e] at h
      simp only [Option.map_some, Option.some.injEq] at h
      split at h
      · rename_i q
        cases h; exact .inr q
      · cases h
  · rename_i c
    exact .inl ⟨h, fun z => c (by simpa using z)⟩
/-- behind the block -/
theorem Sat.unwipe (S : Sat K mg En P (L2.wipe σ vs) H γ) (h1 : ∀ (i : Nat) (d : D), γ1[i]? = some (Sl.pu d) → ∃ v, σ[i]? = some (some v) ∧ Rep K mg P d v) : Sat K mg En P σ H (unwipe γ1 vs 0 γ) := by
  refine ⟨S.sub, by rw [unwipe_len, ← S.len, wipe_len], S.old, S.new, S.keep, S.dom, S.tab, S.tabP, fun i d h => ?_, fun i d h => ?_, fun i j d e n h1 h2 => ?_⟩
  · rcases unwipe_pu h with ⟨h, n⟩ | h
    · have := S.pu i d h
      rw [wipe_out n] at this; exact this
    · exact h1 i d h
  · obtain ⟨h, n⟩ := unwipe_mu h
    have := S.mu i d h
    rw [wipe_out n] at this; exact this
  · obtain ⟨h1, n1⟩ := unwipe_mu h1
    obtain ⟨h2, n2⟩ := unwipe_mu h2
    have := S.ne i j d e n h1 h2
    rw [wipe_out n1, wipe_out n2] at this; exact this
theorem MuAt.wipe {T : List (Addr × Str)} {a : Addr} (h : MuAt T (L2.wipe σ vs) (wipeG vs 0 γ) a) : MuAt T σ γ a := by
  rcases h with ⟨i, d, h1, h2⟩ | h
  · obtain ⟨h1, n⟩ := wipeG_mu (by simp) h1
    rw [wipe_out n] at h2
    exact .inl ⟨i, d, h1, h2⟩
  · exact .inr h
theorem MuAt.unwipe {T : List (Addr × Str)} {a : Addr} (h : MuAt T σ (unwipe γ1 vs 0 γ) a) : MuAt T (L2.wipe σ vs) γ a := by
  rcases h with ⟨i, d, h1, h2⟩ | h
  · obtain ⟨h1, n⟩ := unwipe_mu h1
    exact .inl ⟨i, d, h1, by rw [wipe_out n]; exact h2⟩
  · exact .inr h
end
end DL
end
section
set_option Elab.async false
set_option linter.all false
set_option maxRecDepth 100000
namespace DL
open PySem L2 Evl PySem.Spec PyProof.Rows

/-- nothing is raised -/
def W0 : WX := fun _ _ _ _ => False
section
variable {K : PySem.W.Frag} {mg : Str → Option Value} {En : Ent} {P P1 P2 H H1 H2 : Hp} {σ σ2 : L2.St} {γ γ1 γ2 : Ga} {vs : List Nat}
/-- an object of no slot changes -/
theorem Sat.upd (S : Sat K mg En P σ H γ) {p : Addr} {u o : HO} (n : P p = none) (n0 : En.H0 p = none) (hu : H p = some u) (mu : Mut (some u)) (hx : ∀ φ, u ≠ .ext φ) (hm : ¬ MuAt En.T σ γ p) : Sat K mg En P σ (L2.upd H p o) γ := by
  refine ⟨fun a o' h => ?_, S.len, S.old, fun a h => ?_, fun a o' h nm => ?_, fun a h => ?_, tabs_upd S.tab hu mu hx, S.tabP, S.pu, fun i d h => ?_, S.ne⟩
  · have : a ≠ p := fun z => by rw [z, n] at h; cases h
    rw [upd_ne this]; exact S.sub a o' h
  · rcases S.new a h with h | h | ⟨xs, h⟩
    · exact .inl h
    · exact .inr (.inl h)
    · have : a ≠ p := fun z => by rw [z, hu] at h; cases h; exact mu
      exact .inr (.inr ⟨xs, by rw [upd_ne this]; exact h⟩)
  · have : a ≠ p := fun z => by rw [z, n0] at h; cases h
    rw [upd_ne this]; exact S.keep a o' h nm
  · by_cases z : a = p
    · subst z; rw [upd_same]; simp
    · rw [upd_ne z]; exact S.dom a h
  · obtain ⟨a, h1, h2, h3, h4⟩ := S.mu i d h
    have : a ≠ p := fun z => hm (.inl ⟨i, d, h, z ▸ h1⟩)
    exact ⟨a, h1, h2, h3.mono (Ex.refl P) fun o q => by rw [upd_ne this]; exact q, h4⟩
/-- from one heap to a later one, where at most M may change -/
structure Stg (M : Addr → Prop) (P H P' H' : Hp) : Prop where
  ph : Ex P P'
  new : ∀ a, P' a ≠ none → P a ≠ none ∨ H a = none ∨ M a ∨ ∃ xs, H' a = some (.tup xs)
  keep : ∀ a o, H a = some o → ¬ M a → H' a = some o
  dom : ∀ a, H a ≠ none → H' a ≠ none
  tups : ∀ a xs, H a = some (.tup xs) → H' a = some (.tup xs)
theorem Stp.g {T : List (Addr × Str)} (a : Stp T σ γ P H γ1 P1 H1) : Stg (MuAt T σ γ) P H P1 H1 := ⟨a.ph, a.new, a.keep, a.dom, a.tups⟩
theorem Stg.refl {M : Addr → Prop} : Stg M P H P H := ⟨Ex.refl P, fun _ h => .inl h, fun _ _ h _ => h, fun _ h => h, fun _ _ h => h⟩
theorem Stg.trans {M : Addr → Prop} (a : Stg M P H P1 H1) (b : Stg M P1 H1 P2 H2) : Stg M P H P2 H2 where
  ph := a.ph.trans b.ph
  new := fun x h => by
    rcases b.new x h with h | h | h | h
    · rcases a.new x h with h | h | h | ⟨xs, h⟩
      · exact .inl h
      · exact .inr (.inl h)
      · exact .inr (.inr (.inl h))
      · exact .inr (.inr (.inr ⟨xs, b.tups x xs h⟩))
    · refine .inr (.inl ?_)
      cases q : H x with
      | none => rfl
      | some o => exact absurd h (a.dom x (by rw [q]; simp))
    · exact .inr (.inr (.inl h))
    · exact .inr (.inr (.inr h))
  keep := fun x o h n => b.keep x o (a.keep x o h n) n
  dom := fun x h => b.dom x (a.dom x h)
  tups := fun x xs h => b.tups x xs (a.tups x xs h)
theorem Stg.mono {M M' : Addr → Prop} (a : Stg M P H P1 H1) (h : ∀ x, M x → M' x) : Stg M' P H P1 H1 := ⟨a.ph, fun x n => (a.new x n).imp_right fun z => z.imp_right fun z => z.imp_left (h x), fun x o e n => a.keep x o e fun z => n (h x z), a.dom, a.tups⟩
theorem Gr.g {M : Addr → Prop} (g : Gr P H P1 H1) : Stg M P H P1 H1 := ⟨g.p, fun a h => (g.new a h).imp_right fun z => z.imp_right .inr, fun a o h _ => g.h a o h, fun _ h => ex_ne g.h h, fun a _ h => g.h a _ h⟩
end

section
variable {X : Cx} {W : WX} {En : Ent} {e a b c tg iter elt kx vx : Expr} {es ifs : List Expr} {st : Stmt} {sts sts2 : List Stmt} {pos p1 p2 p3 apos cpos p : Pos} {f fa fb fc fi fv : Ga → R (Res × Ga)} {g : Ga → R (List Res × Ga)} {h h1 h2 : Ga → R (Fl × Ga)}
/-- readings that are the same in each block -/
def uE (X : Cx) (En : Ent) (f : Ga → R (Res × Ga)) : TE := fun σ H Q => ∃ P γ, Sat X.K X.mg En P σ H γ ∧ PostG X W0 En (repE X) σ P H γ Q (f γ)
def uT (X : Cx) (En : Ent) (f : Ga → R (Bool × Ga)) : TT := fun σ H Q => ∃ P γ, Sat X.K X.mg En P σ H γ ∧ PostG X W0 En repT σ P H γ Q (f γ)
def uG (X : Cx) (En : Ent) (js : List Nat) (b : D → Ga → Option Ga) : TG := fun v σ H Q => ∃ P γ d γ', Sat X.K X.mg En P σ H γ ∧ Rep X.K X.mg P d v ∧ b d γ = some γ' ∧ ∀ σ', Sat X.K X.mg En P σ' H γ' → But js σ σ' → Q σ' H
theorem Ev.u (h : Ev X W0 En e f) : PE X e (uE X En f) := by
  obtain ⟨t, p, h⟩ := h
  exact ⟨fun pins s σ H Q I ⟨P, γ, S, q⟩ => p.run pins s σ H Q I (h σ H P γ Q S q)⟩
theorem EvT.u {ft : Ga → R (Bool × Ga)} (h : EvT X W0 En e ft) : PT X e (uT X En ft) := by
  obtain ⟨t, p, h⟩ := h
  exact ⟨fun pins s σ H Q I ⟨P, γ, S, q⟩ => p.run pins s σ H Q I (h σ H P γ Q S q)⟩
theorem EvG.u {js : List Nat} {bd : D → Ga → Option Ga} (h : EvG X En js tg bd) : PG X tg (uG X En js bd) := by
  obtain ⟨t, p, h⟩ := h
  exact ⟨fun pins s σ H v u Q I r ⟨P, γ, d, γ', S, rd, e, q⟩ => p.run pins s σ H v u Q I r (h v d σ H P γ γ' Q S rd e q)⟩
abbrev BX (X : Cx) (scope : Scope) (s : Shared) (H : Hp) (C : Addr) (cl : List (Str × Addr)) (fp : List Addr) : Cx := X.blk s H scope (compEnvC scope cl C X.env) fp

def tYesG : Ga → R (Bool × Ga) := fun γ => .ok (true, γ)
/-- in a block nothing may be raised -/
def noX {α : Type} : R α → R α
  | .exc _ => .no
  | r => r
theorem noX_bind {α β : Type} {r : R α} {k : α → R β} {C : R β → Prop} (hn : ¬ C .no) (h : C (noX r >>= k)) : ∃ a, r = .ok a ∧ C (k a) := by
  cases r with
  | ok a => exact ⟨a, rfl, h⟩
  | exc c => exact absurd h hn
  | no => exact absurd h hn
def loopC (b : D → Ga → Option Ga) (ft : Ga → R (Bool × Ga)) (fe : Ga → R (Res × Ga)) (vs : List Nat) : List D → Ga → R (List D × Ga)
  | [], γ => .ok ([], γ)
  | d :: ds, γ => ofO (b d γ) >>= fun γ1 => noX (ft γ1) >>= fun p => if p.1 = true then noX (fe p.2) >>= fun q => valOf q.1 >>= fun x => loopC b ft fe vs ds (wipeG vs 0 q.2) >>= fun r => .ok (x :: r.1, r.2)
    else loopC b ft fe vs ds (wipeG vs 0 p.2)
/-- [.. for .. in .. if ..] -/
def compL (fi : Ga → R (List D × Ga)) (b : D → Ga → Option Ga) (ft : Ga → R (Bool × Ga)) (fe : Ga → R (Res × Ga)) (vs : List Nat) : Ga → R (D × Ga) := fun γ =>
  fi γ >>= fun p => if p.1.length < sizeLine then loopC b ft fe vs p.1 (wipeG vs 0 p.2) >>= fun r => .ok (.lst r.1, unwipe p.2 vs 0 r.2) else .no
theorem valOf_bind {β : Type} {r : Res} {k : D → R β} {C : R β → Prop} (hn : ¬ C .no) (h : C (valOf r >>= k)) : ∃ d, r = .val d ∧ C (k d) := by
  cases r with
  | val d => exact ⟨d, rfl, h⟩
  | cell i => exact absurd h hn
/-- what the target binds is no object of one's own -/
def NoMu (b : D → Ga → Option Ga) : Prop := ∀ (d : D) (γ γ' : Ga) (i : Nat) (x : D), b d γ = some γ' → γ'[i]? = some (Sl.mu x) → γ[i]? = some (Sl.mu x)
def NoMus (b : List D → Ga → Option Ga) : Prop := ∀ (d : List D) (γ γ' : Ga) (i : Nat) (x : D), b d γ = some γ' → γ'[i]? = some (Sl.mu x) → γ[i]? = some (Sl.mu x)
theorem nomu_name {i : Nat} : NoMu (bName i) := fun d γ γ' j x e h => by
  cases e
  rcases set_get h with ⟨_, z⟩ | ⟨_, z⟩
  · cases z
  · exact z
theorem nomus_nil : NoMus bNil := fun d γ γ' j x e h => by
  unfold bNil at e
  split at e
  · cases e; exact h
  · cases e
theorem nomus_cons {b : D → Ga → Option Ga} {bs : List D → Ga → Option Ga} (h1 : NoMu b) (h2 : NoMus bs) : NoMus (bCons b bs) := fun d γ γ' j x e h => by
  unfold bCons at e
  split at e
  · rename_i d0 ds
    cases e1 : b d0 γ with
    | none => rw [e1] at e; cases e
    | some γ1 => rw [e1] at e; exact h1 _ _ _ _ _ e1 (h2 _ _ _ _ _ e h)
  · cases e
theorem nomu_tup {n : Nat} {bs : List D → Ga → Option Ga} (h2 : NoMus bs) : NoMu (bTup n bs) := fun d γ γ' j x e h => by
  unfold bTup at e
  split at e
  · split at e
    · exact h2 _ _ _ _ _ e h
    · cases e
  · cases e
theorem wipe_in {σ : L2.St} {i : Nat} : ∀ {vs : List Nat}, i ∈ vs → i < σ.length → (L2.wipe σ vs)[i]? = some none
  | v :: vs, h, l => by
    unfold L2.wipe
    by_cases z : v = i
    · subst z; rw [List.getElem?_set_self (by rw [wipe_length]; exact l)]
    · rw [List.getElem?_set_ne z]
      rcases List.mem_cons.mp h with q | q
      · exact absurd q.symm z
      · exact wipe_in q l
theorem wipe_but {σ σ2 : L2.St} {js vs : List Nat} (b : But js (L2.wipe σ vs) σ2) (hj : ∀ j ∈ js, j ∈ vs) : L2.wipe σ2 vs = L2.wipe σ vs := by
  have hl : σ2.length = σ.length := b.1.trans (wipe_length σ vs)
  refine List.ext_getElem? fun i => ?_
  by_cases hi : i ∈ vs
  · by_cases l : i < σ.length
    · rw [wipe_in hi l, wipe_in hi (by rw [hl]; exact l)]
    · rw [List.getElem?_eq_none (by rw [wipe_length, hl]; omega), List.getElem?_eq_none (by rw [wipe_length]; omega)]
  · rw [wipe_out hi, b.2 i fun z => hi (hj i z)]
theorem Stg.own {M : Addr → Prop} {P H P1 H1 : Hp} (t : Stg M P H P1 H1) {p : Addr} {u : HO} (n : P p = none) (hu : H p = some u) (mu : Mut (some u)) (nm : ¬ M p) : P1 p = none ∧ H1 p = some u := by
  have h1 := t.keep p u hu nm
  refine ⟨?_, h1⟩
  cases q : P1 p with
  | none => rfl
  | some o =>
    rcases t.new p (by rw [q]; simp) with h | h | h | ⟨xs, h⟩
    · exact absurd n h
    · rw [hu] at h; cases h
    · exact absurd h nm
    · rw [h1] at h; cases h; exact mu.elim
theorem Stg.put {M : Addr → Prop} {P H P1 H1 : Hp} (t : Stg M P H P1 H1) {p : Addr} {o : HO} (n : H p = none) : Stg M P H P1 (L2.upd H1 p o) := by
  refine ⟨t.ph, fun a h => ?_, fun a u h nm => ?_, fun a h => ?_, fun a xs h => ?_⟩
  · by_cases z : a = p
    · subst z; exact .inr (.inl n)
    · rw [upd_ne z]; exact t.new a h
  · have : a ≠ p := fun z => by rw [z, n] at h; cases h
    rw [upd_ne this]; exact t.keep a u h nm
  · by_cases z : a = p
    · rw [z, upd_same]; simp
    · rw [upd_ne z]; exact t.dom a h
  · have : a ≠ p := fun z => by rw [z, n] at h; cases h
    rw [upd_ne this]; exact t.tups a xs h
theorem lc_go {vs : List Nat} {bd : D → Ga → Option Ga} {ft : Ga → R (Bool × Ga)} {fe : Ga → R (Res × Ga)} {it : Ga → R (List D × Ga)} {js : List Nat} {wi : TI} {Wi : WX} {tt : TT} (hj : ∀ j ∈ js, j ∈ vs) (nm : NoMu bd)
    (ht : ∀ σ H P γ Q, Sat X.K X.mg En P σ H γ → PostG X W0 En repT σ P H γ Q (ft γ) → tt σ H Q)
    (hi : ∀ σ H P γ R, Sat X.K X.mg En P σ H γ → PostG X Wi En (repI X) σ P H γ R (it γ) → wi σ H R)
    {σ : L2.St} {H P : Hp} {γ : Ga} {Q : VK} (S : Sat X.K X.mg En P σ H γ) (q : PostG X Wi En (repF X) σ P H γ Q (compL it bd ft fe vs γ)) : tLc wi (uG X En js bd) tt (uE X En fe) vs σ H Q := by
  refine hi σ H P γ _ S ?_
  unfold compL at q
  cases e0 : it γ with
  | no => rw [e0] at q; exact q
  | exc c => rw [e0] at q; exact q
  | ok r0 =>
  obtain ⟨ds, γ1⟩ := r0
  rw [e0, R.ok_bind] at q
  intro J H1 P1 S1 T1 items D hD
  have q := q.later T1 (fun P' H' σ a b => hrepF H H1 P' H' σ a b T1.dom)
  simp only at q
  split at q
  rotate_left
  · exact q.elim
  rename_i hlen
  have nM : ¬ MuAt En.T σ γ1 D := fun z => ((z.there S1).2 hD).elim
  have n0 : En.H0 D = none := Classical.byContradiction fun z => S1.dom D z hD
  have nP : P1 D = none := fresh_back S1.sub hD
  refine ⟨fun i m H' => ∃ P' γ' acc accD, Sat X.K X.mg En P' (L2.wipe σ vs) H' (wipeG vs 0 γ') ∧ H' D = some (.lst acc) ∧ P' D = none ∧ RepL X.K X.mg P' accD acc ∧ accD.length ≤ i ∧ i + m = ds.length ∧ Stg (MuAt En.T σ γ1) P1 H1 P' H' ∧ (∀ a, MuAt En.T (L2.wipe σ vs) (wipeG vs 0 γ') a → MuAt En.T σ γ1 a) ∧
    PostG X Wi En (repF X) σ P1 H1 γ1 Q (loopC bd ft fe vs (ds.drop i) (wipeG vs 0 γ') >>= fun (r : List DL.D × Ga) => .ok (.lst (accD ++ r.1), unwipe γ1 vs 0 r.2)), ⟨ds.length, P1, γ1, [], [], (S1.wipe (vs := vs)).gr (Gr.up S1.sub (Ex.new hD)), upd_same, nP, .nil, Nat.le_refl _, Nat.zero_add _, (Gr.up S1.sub (Ex.new hD)).g, fun a h => h.wipe, by simpa using q⟩, ?_⟩
  rintro i m H' ⟨P', γ', acc, accD, S', hDl, hPD, racc, hal, him, T', hmu, q'⟩
  cases m with
  | zero =>
    have hd : ds.drop i = [] := List.drop_eq_nil_of_le (by omega)
    rw [hd] at q'
    refine .inl ⟨?_, ?_⟩
    · have := items.2 P' H' T'.ph S'.sub
      rw [← him, Nat.add_zero] at this
      exact this
    · have q2 : PostG X Wi En (repF X) σ P1 H1 γ1 Q (.ok (.lst (accD ++ []), unwipe γ1 vs 0 (wipeG vs 0 γ'))) := q'
      refine q2 _ H' P' (S'.unwipe fun i d h => ?_) ⟨T'.ph, T'.new, T'.keep, T'.dom, fun a h => hmu a h.unwipe, T'.tups⟩ ⟨D, rfl, hD, hPD, .inl ⟨_, _, rfl, hDl, by rw [List.append_nil]; exact racc⟩⟩
      obtain ⟨v, h1, h2⟩ := S1.pu i d h
      exact ⟨v, h1, h2.mono T'.ph⟩
  | succ m =>
    have hi : i < ds.length := by omega
    have hd : ds.drop i = ds[i] :: ds.drop (i + 1) := List.drop_eq_getElem_cons hi
    rw [hd] at q'
    obtain ⟨hgo, hy⟩ := items.1 i ds[i] (List.getElem?_eq_getElem hi) P' H' T'.ph S'.sub
    refine .inr ⟨hgo, _, fun H'' h => ⟨m, Nat.lt_succ_self m, h⟩, fun x H2 y => ?_⟩
    obtain ⟨P2, g2, r2⟩ := hy x H2 y
    have S2 := S'.gr g2
    unfold loopC at q'
    obtain ⟨γ3, e3, q3⟩ := ofO_ok (C := fun (r : R (List DL.D × Ga)) => PostG X Wi En (repF X) σ P1 H1 γ1 Q (r >>= fun (r : List DL.D × Ga) => .ok (.lst (accD ++ r.1), unwipe γ1 vs 0 r.2))) (fun z => z) q'
    refine ⟨P2, _, _, γ3, S2, r2, e3, fun σ3 S3 b3 => ?_⟩
    have hw : L2.wipe σ3 vs = L2.wipe σ vs := wipe_but b3 hj
    refine ⟨by rw [hw], ht σ3 H2 P2 γ3 _ S3 ?_⟩
    obtain ⟨⟨bb, γ4⟩, e4, q4⟩ := noX_bind (C := fun (r : R (List DL.D × Ga)) => PostG X Wi En (repF X) σ P1 H1 γ1 Q (r >>= fun (r : List DL.D × Ga) => .ok (.lst (accD ++ r.1), unwipe γ1 vs 0 r.2))) (fun z => z) q3
    rw [e4]
    intro b' H3 P3 S4 T3 eb
    have eb : bb = b' := eb
    subst eb
    have M3 : ∀ a, MuAt En.T σ3 γ3 a → MuAt En.T σ γ1 a := fun a h => by
      rcases h with ⟨i, d, h1, h2⟩ | h
      · have h3 := nm _ _ _ _ _ e3 h1
        obtain ⟨h4, n4⟩ := wipeG_mu (by simp) h3
        rw [b3.2 i fun z => n4 (hj i z)] at h2
        exact hmu a (.inl ⟨i, d, h3, h2⟩)
      · exact .inr h
    have G2 : Stg (MuAt En.T σ γ1) P1 H1 P2 H2 := T'.trans g2.g
    have O2 := (g2.g (M := MuAt En.T σ γ1)).own hPD hDl trivial nM
    have G3 : Stg (MuAt En.T σ γ1) P2 H2 P3 H3 := T3.g.mono M3
    have O3 := G3.own O2.1 O2.2 trivial nM
    have M4 : ∀ a, MuAt En.T σ3 γ4 a → MuAt En.T σ γ1 a := fun a h => M3 a (T3.mus a h)
    cases bb with
    | false =>
      have q5 : PostG X Wi En (repF X) σ P1 H1 γ1 Q (loopC bd ft fe vs (ds.drop (i + 1)) (wipeG vs 0 γ4) >>= fun (r : List DL.D × Ga) => .ok (.lst (accD ++ r.1), unwipe γ1 vs 0 r.2)) := q4
      exact ⟨P3, γ4, acc, accD, hw ▸ S4.wipe (vs := vs), O3.2, O3.1, racc.mono (g2.p.trans T3.ph), by omega, by omega, G2.trans G3, fun a h => M4 a (MuAt.wipe (vs := vs) (by rw [hw]; exact h)), q5⟩
    | true =>
      refine ⟨P3, γ4, S4, ?_⟩
      obtain ⟨⟨rr, γ5⟩, e5, q5⟩ := noX_bind (C := fun (r : R (List DL.D × Ga)) => PostG X Wi En (repF X) σ P1 H1 γ1 Q (r >>= fun (r : List DL.D × Ga) => .ok (.lst (accD ++ r.1), unwipe γ1 vs 0 r.2))) (fun z => z) q4
      rw [e5]
      intro y H4 P4 S5 T4 rv
      obtain ⟨d5, e6, q6⟩ := valOf_bind (C := fun (r : R (List DL.D × Ga)) => PostG X Wi En (repF X) σ P1 H1 γ1 Q (r >>= fun (r : List DL.D × Ga) => .ok (.lst (accD ++ r.1), unwipe γ1 vs 0 r.2))) (fun z => z) q5
      simp only at e6
      subst e6
      have rv : Rep X.K X.mg P4 d5 y := rv
      have G4 : Stg (MuAt En.T σ γ1) P3 H3 P4 H4 := T4.g.mono M4
      have O4 := G4.own O3.1 O3.2 trivial nM
      have M5 : ∀ a, MuAt En.T (L2.wipe σ vs) (wipeG vs 0 γ5) a → MuAt En.T σ γ1 a := fun a h => M4 a (T4.mus a (MuAt.wipe (vs := vs) (by rw [hw]; exact h)))
      have la : acc.length = accD.length := racc.length.symm
      refine ⟨acc, O4.2, by omega, P4, γ5, acc ++ [y], accD ++ [d5], (hw ▸ S5.wipe (vs := vs)).upd O4.1 n0 O4.2 trivial (fun φ z => by cases z) fun z => nM (M5 _ z), upd_same, O4.1, (racc.mono (g2.p.trans (T3.ph.trans T4.ph))).append (.cons rv .nil), by simp; omega, by omega, (G2.trans (G3.trans G4)).put hD, M5, ?_⟩
      cases el : loopC bd ft fe vs (ds.drop (i + 1)) (wipeG vs 0 γ5) with
      | no => simp only [el] at q6; exact q6
      | exc c => simp only [el] at q6; exact q6
      | ok r =>
        simp only [el] at q6
        rw [R.ok_bind]
        have q7 : PostG X Wi En (repF X) σ P1 H1 γ1 Q (.ok (.lst (accD ++ (d5 :: r.1)), unwipe γ1 vs 0 r.2)) := q6
        simpa using q7
theorem tyes_go : ∀ σ H P γ Q, Sat X.K X.mg En P σ H γ → PostG X W0 En repT σ P H γ Q (tYesG γ) → tYes σ H Q := fun σ H P γ Q S q => q true H P S .refl rfl
theorem el_lc {scope : Scope} {own : List (Str × Nat)} {bd : D → Ga → Option Ga} {fe : Ga → R (Res × Ga)} {it : Ga → R (List D × Ga)} {js : List Nat} (hc : X.calm = true) (hN : X.N.Nodup) (hi : EvI X W En tg iter it) (ok : BlkOk X.N X.env.scope scope own)
    (hj : ∀ j ∈ js, j ∈ own.map (·.2)) (nm : NoMu bd) (hg : ∀ s H C cl fp, EvG (BX X scope s H C cl fp) En js tg bd) (he : ∀ s H C cl fp, Ev (BX X scope s H C cl fp) W0 En elt fe)
    (hs : ∀ x, foldedSetIterable iter X.env x = pure x := by intro _; rfl) : EvL X W En (.ListComp elt [⟨tg, iter, [], 0⟩] scope pos) (compL it bd tYesG fe (own.map (·.2))) := by
  obtain ⟨wi, pi, hi⟩ := hi
  exact ⟨_, pe_lc hc hN pi ok (fun s H C cl fp => (hg s H C cl fp).u) (fun s H C cl fp => pts_nil) (fun s H C cl fp => (he s H C cl fp).u) hs, fun hy hyl hsw => ps_setLc hc hN hy hyl hsw pi ok (fun s H C cl fp => (hg s H C cl fp).u) (fun s H C cl fp => pts_nil) (fun s H C cl fp => (he s H C cl fp).u) hs,
    fun σ H P γ Q S q => lc_go hj nm tyes_go hi S q⟩
theorem ut_go {ft : Ga → R (Bool × Ga)} : ∀ σ H P γ Q, Sat X.K X.mg En P σ H γ → PostG X W0 En repT σ P H γ Q (ft γ) → uT X En ft σ H Q := fun σ H P γ Q S q => ⟨P, γ, S, q⟩
theorem el_lcif {scope : Scope} {own : List (Str × Nat)} {bd : D → Ga → Option Ga} {ft : Ga → R (Bool × Ga)} {fe : Ga → R (Res × Ga)} {it : Ga → R (List D × Ga)} {js : List Nat} (hc : X.calm = true) (hN : X.N.Nodup) (hi : EvI X W En tg iter it) (ok : BlkOk X.N X.env.scope scope own)
    (hj : ∀ j ∈ js, j ∈ own.map (·.2)) (nm : NoMu bd) (hg : ∀ s H C cl fp, EvG (BX X scope s H C cl fp) En js tg bd) (ht : ∀ s H C cl fp, EvT (BX X scope s H C cl fp) W0 En c ft) (he : ∀ s H C cl fp, Ev (BX X scope s H C cl fp) W0 En elt fe)
    (hs : ∀ x, foldedSetIterable iter X.env x = pure x := by intro _; rfl) : EvL X W En (.ListComp elt [⟨tg, iter, [c], 0⟩] scope pos) (compL it bd ft fe (own.map (·.2))) := by
  obtain ⟨wi, pi, hi⟩ := hi
  exact ⟨_, pe_lc hc hN pi ok (fun s H C cl fp => (hg s H C cl fp).u) (fun s H C cl fp => pts_one (ht s H C cl fp).u) (fun s H C cl fp => (he s H C cl fp).u) hs, fun hy hyl hsw => ps_setLc hc hN hy hyl hsw pi ok (fun s H C cl fp => (hg s H C cl fp).u) (fun s H C cl fp => pts_one (ht s H C cl fp).u) (fun s H C cl fp => (he s H C cl fp).u) hs,
    fun σ H P γ Q S q => lc_go hj nm ut_go hi S q⟩
end
end DL
end
section
set_option Elab.async false
set_option linter.all false
set_option maxRecDepth 100000
namespace DL
open PySem L2 Evl PySem.Spec PyProof.Rows

section
variable {X : Cx} {W : WX} {En : Ent} {e a b c tg iter elt kx vx : Expr} {es ifs : List Expr} {st : Stmt} {sts sts2 : List Stmt} {pos p1 p2 p3 apos cpos p : Pos} {f fa fb fc fi fv fk : Ga → R (Res × Ga)} {g : Ga → R (List Res × Ga)} {h h1 h2 : Ga → R (Fl × Ga)}
/-- name = {..} on one line, the name a local -/
theorem ps_setDc {i : Nat} {y : Str} {py : Pos} {scope : Scope} {own : List (Str × Nat)} {pos spos : Pos} {wi : TI} {g : TG} {tt : TT} {tk tv : TE} (hc : X.calm = true) (hN : X.N.Nodup) (hy : X.N[i]? = some y) (hyl : X.env.scope.names.lookup y = some .local)
    (hsw : swapsWith (.DictComp kx vx [⟨tg, iter, ifs, 0⟩] scope pos) (some (.Name y py)) spos.line X.env = pure true) (hi : PI X tg iter wi) (ok : BlkOk X.N X.env.scope scope own)
    (hg : ∀ (s : Shared) (H : Hp) (C : Addr) (cl : List (Str × Addr)) (fp : List Addr), PG (X.blk s H scope (compEnvC scope cl C X.env) fp) tg g) (ht : ∀ (s : Shared) (H : Hp) (C : Addr) (cl : List (Str × Addr)) (fp : List Addr), PTs (X.blk s H scope (compEnvC scope cl C X.env) fp) ifs tt)
    (hk : ∀ (s : Shared) (H : Hp) (C : Addr) (cl : List (Str × Addr)) (fp : List Addr), PE (X.blk s H scope (compEnvC scope cl C X.env) fp) kx tk)
    (he : ∀ (s : Shared) (H : Hp) (C : Addr) (cl : List (Str × Addr)) (fp : List Addr), PE (X.blk s H scope (compEnvC scope cl C X.env) fp) vx tv) (hs : ∀ x, foldedSetIterable iter X.env x = pure x := by intro _; rfl) :
    PS X (.Assign [.Name y py] (.DictComp kx vx [⟨tg, iter, ifs, 0⟩] scope pos) spos) (tAsg (tDc wi g tt tk tv (own.map (·.2))) (gName i)) := by
  refine ⟨fun pins s σ H D I h => ?_⟩
  rw [exec_Assign_Name_used _ _ _ _ hsw]
  refine wpAny_bind (wpAny_standAt (wpAny_bind ?_))
  have h : tDc wi g tt tk tv (own.map (·.2)) σ H (fun x H1 => gName i x σ H1 D.nx) := h
  refine wpAny_bind (thn (dc_core (Qf := fun _ s' => SP X pins D .next s') hc hN I hi ok hg ht hk he hs h fun L C s' m H' I' q hn f => ?_) fun _ s' hq => wpAny_pure (wpAny_pure hq))
  show wpAny _ _ (assign (.Name y py) X.env (.ref L)) _ _ _
  refine wpAny_assign_Name (store_ok2 (v := V.ref L) I' hN hy (.inl hyl) rfl (fun s2 I2 ⟨a, sb, ha⟩ => ?_) (.inr hyl))
  obtain ⟨f0, f1, f2, f3, f4, f5⟩ := f
  have haC : C ≠ a := by
    rcases ha with z | z
    · rw [z]; exact f1
    · exact fun e => f4 y a z e.symm
  refine ⟨m, hn.sameBut sb haC, fun h3 sb3 => ?_⟩
  exact ⟨_, H', I2.turned (t' := s2.toks) (fun b o hb e => (sb3.2 b hb).trans e) f0 f1 f3 f4 f5, q⟩

/-! ### {k: v for .. in .. if ..} -/
def loopD (b : D → Ga → Option Ga) (ft : Ga → R (Bool × Ga)) (fk fe : Ga → R (Res × Ga)) (vs : List Nat) : List D → Ga → List DK → List D → R ((List DK × List D) × Ga)
  | [], γ, ks, us => .ok ((ks, us), γ)
  | d :: ds, γ, ks, us => ofO (b d γ) >>= fun γ1 => noX (ft γ1) >>= fun p => if p.1 = true then noX (fk p.2) >>= fun q => valOf q.1 >>= fun x => noX (fe q.2) >>= fun r => valOf r.1 >>= fun y =>
      ofO x.key >>= fun k => if k.isT = true then .no else loopD b ft fk fe vs ds (wipeG vs 0 r.2) (dPutK ks k) (dPutV ks us k y)
    else loopD b ft fk fe vs ds (wipeG vs 0 p.2) ks us
def compD (fi : Ga → R (List D × Ga)) (b : D → Ga → Option Ga) (ft : Ga → R (Bool × Ga)) (fk fe : Ga → R (Res × Ga)) (vs : List Nat) : Ga → R (D × Ga) := fun γ =>
  fi γ >>= fun p => if p.1.length < sizeLine then loopD b ft fk fe vs p.1 (wipeG vs 0 p.2) [] [] >>= fun r => .ok (.dct false r.1.1 r.1.2, unwipe p.2 vs 0 r.2) else .no
theorem dc_go {vs : List Nat} {bd : D → Ga → Option Ga} {ft : Ga → R (Bool × Ga)} {fk fe : Ga → R (Res × Ga)} {it : Ga → R (List D × Ga)} {js : List Nat} {wi : TI} {Wi : WX} {tt : TT} (hj : ∀ j ∈ js, j ∈ vs) (nm : NoMu bd)
    (ht : ∀ σ H P γ Q, Sat X.K X.mg En P σ H γ → PostG X W0 En repT σ P H γ Q (ft γ) → tt σ H Q)
    (hi : ∀ σ H P γ R, Sat X.K X.mg En P σ H γ → PostG X Wi En (repI X) σ P H γ R (it γ) → wi σ H R)
    {σ : L2.St} {H P : Hp} {γ : Ga} {Q : VK} (S : Sat X.K X.mg En P σ H γ) (q : PostG X Wi En (repF X) σ P H γ Q (compD it bd ft fk fe vs γ)) : tDc wi (uG X En js bd) tt (uE X En fk) (uE X En fe) vs σ H Q := by
  refine hi σ H P γ _ S ?_
  unfold compD at q
  cases e0 : it γ with
  | no => rw [e0] at q; exact q
  | exc c => rw [e0] at q; exact q
  | ok r0 =>
  obtain ⟨ds, γ1⟩ := r0
  rw [e0, R.ok_bind] at q
  intro J H1 P1 S1 T1 items D hD
  have q := q.later T1 (fun P' H' σ a b => hrepF H H1 P' H' σ a b T1.dom)
  simp only at q
  split at q
  rotate_left
  · exact q.elim
  rename_i hlen
  have nM : ¬ MuAt En.T σ γ1 D := fun z => ((z.there S1).2 hD).elim
  have n0 : En.H0 D = none := Classical.byContradiction fun z => S1.dom D z hD
  have nP : P1 D = none := fresh_back S1.sub hD
  refine ⟨fun i m H' => ∃ P' γ' kvs ks us, Sat X.K X.mg En P' (L2.wipe σ vs) H' (wipeG vs 0 γ') ∧ H' D = some (.dK kvs) ∧ P' D = none ∧ Own X.K X.mg P' H' (.dct false ks us) D ∧ ks.length ≤ i ∧ kvs.length ≤ i ∧ i + m = ds.length ∧ Stg (MuAt En.T σ γ1) P1 H1 P' H' ∧ (∀ a, MuAt En.T (L2.wipe σ vs) (wipeG vs 0 γ') a → MuAt En.T σ γ1 a) ∧
    PostG X Wi En (repF X) σ P1 H1 γ1 Q (loopD bd ft fk fe vs (ds.drop i) (wipeG vs 0 γ') ks us >>= fun (r : (List DK × List DL.D) × Ga) => .ok (.dct false r.1.1 r.1.2, unwipe γ1 vs 0 r.2)), ⟨ds.length, P1, γ1, [], [], [], (S1.wipe (vs := vs)).gr (Gr.up S1.sub (Ex.new hD)), upd_same, nP, .inr (.inl ⟨_, _, [], rfl, upd_same, .nil, .nil⟩), Nat.le_refl _, Nat.le_refl _, Nat.zero_add _, (Gr.up S1.sub (Ex.new hD)).g, fun a h => h.wipe, by simpa using q⟩, ?_⟩
  rintro i m H' ⟨P', γ', kvs, ks, us, S', hDl, hPD, ow, hal, hkl, him, T', hmu, q'⟩
  cases m with
  | zero =>
    have hd : ds.drop i = [] := List.drop_eq_nil_of_le (by omega)
    rw [hd] at q'
    refine .inl ⟨?_, ?_⟩
    · have := items.2 P' H' T'.ph S'.sub
      rw [← him, Nat.add_zero] at this
      exact this
    · have q2 : PostG X Wi En (repF X) σ P1 H1 γ1 Q (.ok (.dct false ks us, unwipe γ1 vs 0 (wipeG vs 0 γ'))) := q'
      refine q2 _ H' P' (S'.unwipe fun i d h => ?_) ⟨T'.ph, T'.new, T'.keep, T'.dom, fun a h => hmu a h.unwipe, T'.tups⟩ ⟨D, rfl, hD, hPD, ow⟩
      obtain ⟨v, h1, h2⟩ := S1.pu i d h
      exact ⟨v, h1, h2.mono T'.ph⟩
  | succ m =>
    have hi : i < ds.length := by omega
    have hd : ds.drop i = ds[i] :: ds.drop (i + 1) := List.drop_eq_getElem_cons hi
    rw [hd] at q'
    obtain ⟨hgo, hy⟩ := items.1 i ds[i] (List.getElem?_eq_getElem hi) P' H' T'.ph S'.sub
    refine .inr ⟨hgo, _, fun H'' h => ⟨m, Nat.lt_succ_self m, h⟩, fun x H2 y => ?_⟩
    obtain ⟨P2, g2, r2⟩ := hy x H2 y
    have S2 := S'.gr g2
    unfold loopD at q'
    let C : R ((List DK × List DL.D) × Ga) → Prop := fun r => PostG X Wi En (repF X) σ P1 H1 γ1 Q (r >>= fun (r : (List DK × List DL.D) × Ga) => .ok (.dct false r.1.1 r.1.2, unwipe γ1 vs 0 r.2))
    obtain ⟨γ3, e3, q3⟩ := ofO_ok (C := C) (fun z => z) q'
    refine ⟨P2, _, _, γ3, S2, r2, e3, fun σ3 S3 b3 => ?_⟩
    have hw : L2.wipe σ3 vs = L2.wipe σ vs := wipe_but b3 hj
    refine ⟨by rw [hw], ht σ3 H2 P2 γ3 _ S3 ?_⟩
    obtain ⟨⟨bb, γ4⟩, e4, q4⟩ := noX_bind (C := C) (fun z => z) q3
    rw [e4]
    intro b' H3 P3 S4 T3 eb
    have eb : bb = b' := eb
    subst eb
    have M3 : ∀ a, MuAt En.T σ3 γ3 a → MuAt En.T σ γ1 a := fun a h => by
      rcases h with ⟨i, d, h1, h2⟩ | h
      · have h3 := nm _ _ _ _ _ e3 h1
        obtain ⟨h4, n4⟩ := wipeG_mu (by simp) h3
        rw [b3.2 i fun z => n4 (hj i z)] at h2
        exact hmu a (.inl ⟨i, d, h3, h2⟩)
      · exact .inr h
    have G2 : Stg (MuAt En.T σ γ1) P1 H1 P2 H2 := T'.trans g2.g
    have O2 := (g2.g (M := MuAt En.T σ γ1)).own hPD hDl trivial nM
    have G3 : Stg (MuAt En.T σ γ1) P2 H2 P3 H3 := T3.g.mono M3
    have O3 := G3.own O2.1 O2.2 trivial nM
    have M4 : ∀ a, MuAt En.T σ3 γ4 a → MuAt En.T σ γ1 a := fun a h => M3 a (T3.mus a h)
    have same : ∀ {H'' : Hp}, H'' D = some (.dK kvs) → ∀ o, H' D = some o → H'' D = some o := fun h o e => by rw [hDl] at e; cases e; exact h
    cases bb with
    | false =>
      have q5 : C (loopD bd ft fk fe vs (ds.drop (i + 1)) (wipeG vs 0 γ4) ks us) := q4
      exact ⟨P3, γ4, kvs, ks, us, hw ▸ S4.wipe (vs := vs), O3.2, O3.1, ow.mono (g2.p.trans T3.ph) (same O3.2), by omega, by omega, by omega, G2.trans G3, fun a h => M4 a (MuAt.wipe (vs := vs) (by rw [hw]; exact h)), q5⟩
    | true =>
      refine ⟨P3, γ4, S4, ?_⟩
      obtain ⟨⟨rk, γ5⟩, e5, q5⟩ := noX_bind (C := C) (fun z => z) q4
      rw [e5]
      intro y H4 P4 S5 T4 rv
      obtain ⟨dk, e6, q6⟩ := valOf_bind (C := C) (fun z => z) q5
      simp only at e6
      subst e6
      have rv : Rep X.K X.mg P4 dk y := rv
      have G4 : Stg (MuAt En.T σ γ1) P3 H3 P4 H4 := T4.g.mono M4
      have O4 := G4.own O3.1 O3.2 trivial nM
      have M5 : ∀ a, MuAt En.T σ3 γ5 a → MuAt En.T σ γ1 a := fun a h => M4 a (T4.mus a h)
      refine ⟨P4, γ5, S5, ?_⟩
      obtain ⟨⟨rr, γ6⟩, e7, q7⟩ := noX_bind (C := C) (fun z => z) q6
      rw [e7]
      intro z H5 P5 S6 T5 rz
      obtain ⟨dv, e8, q8⟩ := valOf_bind (C := C) (fun z => z) q7
      simp only at e8
      subst e8
      have rz : Rep X.K X.mg P5 dv z := rz
      have G5 : Stg (MuAt En.T σ γ1) P4 H4 P5 H5 := T5.g.mono M5
      have O5 := G5.own O4.1 O4.2 trivial nM
      have M6 : ∀ a, MuAt En.T (L2.wipe σ vs) (wipeG vs 0 γ6) a → MuAt En.T σ γ1 a := fun a h => M5 a (T5.mus a (MuAt.wipe (vs := vs) (by rw [hw]; exact h)))
      obtain ⟨k, e9, q9⟩ := ofO_ok (C := C) (fun z => z) q8
      split at q9
      · exact q9.elim
      rename_i hT
      have hT : k.isT = false := by simpa using hT
      have rkey : y = kV (keyK k) := key_flat (H := H4) e9 hT (rv.w S5.sub)
      have ow5 := ow.mono (g2.p.trans (T3.ph.trans (T4.ph.trans T5.ph))) (same O5.2)
      rcases ow5 with ⟨_, _, e0, _⟩ | ⟨ks', us', kvs', e0, h', hk', r'⟩ | ⟨_, _, _, e0, _⟩
      · cases e0
      · cases e0
        rw [O5.2] at h'
        cases h'
        obtain ⟨f1, f2⟩ := hk'.is
        obtain ⟨p1, p2⟩ := put_gen keyK k rz f1 r' fun z hz q => keyK_inj (f2 z hz) hT q
        have lk := length_putK kvs (keyK k) z
        have ld : (dPutK ks k).length ≤ ks.length + 1 := by
          unfold dPutK; split <;> simp
        refine ⟨kvs, keyK k, rkey, O5.2, by omega, P5, γ6, putK kvs (keyK k) z, dPutK ks k, dPutV ks us k dv, (hw ▸ S6.wipe (vs := vs)).upd O5.1 n0 O5.2 trivial (fun φ z => by cases z) fun z => nM (M6 _ z), upd_same, O5.1, .inr (.inl ⟨_, _, _, rfl, upd_same, ?_, p2⟩), by omega, by omega, by omega, (G2.trans (G3.trans (G4.trans G5))).put hD, M6, q9⟩
        rw [p1]
        exact KsK.of fun x hx => by
          unfold dPutK at hx
          split at hx
          · exact f2 x hx
          · rcases List.mem_append.mp hx with h | h
            · exact f2 x h
            · have : x = k := by simpa using h
              rw [this]; exact hT
      · cases e0
theorem el_dc {scope : Scope} {own : List (Str × Nat)} {bd : D → Ga → Option Ga} {fk fe : Ga → R (Res × Ga)} {it : Ga → R (List D × Ga)} {js : List Nat} (hc : X.calm = true) (hN : X.N.Nodup) (hi : EvI X W En tg iter it) (ok : BlkOk X.N X.env.scope scope own)
    (hj : ∀ j ∈ js, j ∈ own.map (·.2)) (nm : NoMu bd) (hg : ∀ s H C cl fp, EvG (BX X scope s H C cl fp) En js tg bd) (hk : ∀ s H C cl fp, Ev (BX X scope s H C cl fp) W0 En kx fk) (he : ∀ s H C cl fp, Ev (BX X scope s H C cl fp) W0 En vx fe)
    (hs : ∀ x, foldedSetIterable iter X.env x = pure x := by intro _; rfl) : EvL X W En (.DictComp kx vx [⟨tg, iter, [], 0⟩] scope pos) (compD it bd tYesG fk fe (own.map (·.2))) := by
  obtain ⟨wi, pi, hi⟩ := hi
  exact ⟨_, pe_dc hc hN pi ok (fun s H C cl fp => (hg s H C cl fp).u) (fun s H C cl fp => pts_nil) (fun s H C cl fp => (hk s H C cl fp).u) (fun s H C cl fp => (he s H C cl fp).u) hs, fun hy hyl hsw => ps_setDc hc hN hy hyl hsw pi ok (fun s H C cl fp => (hg s H C cl fp).u) (fun s H C cl fp => pts_nil) (fun s H C cl fp => (hk s H C cl fp).u) (fun s H C cl fp => (he s H C cl fp).u) hs,
    fun σ H P γ Q S q => dc_go hj nm tyes_go hi S q⟩
theorem el_dcif {scope : Scope} {own : List (Str × Nat)} {bd : D → Ga → Option Ga} {ft : Ga → R (Bool × Ga)} {fk fe : Ga → R (Res × Ga)} {it : Ga → R (List D × Ga)} {js : List Nat} (hc : X.calm = true) (hN : X.N.Nodup) (hi : EvI X W En tg iter it) (ok : BlkOk X.N X.env.scope scope own)
    (hj : ∀ j ∈ js, j ∈ own.map (·.2)) (nm : NoMu bd) (hg : ∀ s H C cl fp, EvG (BX X scope s H C cl fp) En js tg bd) (ht : ∀ s H C cl fp, EvT (BX X scope s H C cl fp) W0 En c ft) (hk : ∀ s H C cl fp, Ev (BX X scope s H C cl fp) W0 En kx fk) (he : ∀ s H C cl fp, Ev (BX X scope s H C cl fp) W0 En vx fe)
    (hs : ∀ x, foldedSetIterable iter X.env x = pure x := by intro _; rfl) : EvL X W En (.DictComp kx vx [⟨tg, iter, [c], 0⟩] scope pos) (compD it bd ft fk fe (own.map (·.2))) := by
  obtain ⟨wi, pi, hi⟩ := hi
  exact ⟨_, pe_dc hc hN pi ok (fun s H C cl fp => (hg s H C cl fp).u) (fun s H C cl fp => pts_one (ht s H C cl fp).u) (fun s H C cl fp => (hk s H C cl fp).u) (fun s H C cl fp => (he s H C cl fp).u) hs, fun hy hyl hsw => ps_setDc hc hN hy hyl hsw pi ok (fun s H C cl fp => (hg s H C cl fp).u) (fun s H C cl fp => pts_one (ht s H C cl fp).u) (fun s H C cl fp => (hk s H C cl fp).u) (fun s H C cl fp => (he s H C cl fp).u) hs,
    fun σ H P γ Q S q => dc_go hj nm ut_go hi S q⟩
end
end DL
end
section
set_option Elab.async false
set_option linter.all false
set_option maxRecDepth 100000
namespace DL
open PySem L2 Evl PySem.Spec PyProof.Rows

/-! ### dicts, walked -/
def okS (s : List Nat) : Bool := Nat.ble s.length 16777216
theorem okS_of {s : List Nat} (h : okS s = true) : s.length ≤ sizeLine := by
  unfold okS at h
  have := Nat.le_of_ble_eq_true h
  simpa [sizeLine] using this
def at0 : Int ⊕ List Nat → Option D
  | .inl n => some (.int n)
  | .inr s => if okS s then some (.str s) else none
def at0s : List (Int ⊕ List Nat) → Option (List D)
  | [] => some []
  | k :: ks => match at0 k with
    | some d => match at0s ks with
      | some r => some (d :: r)
      | none => none
    | none => none
def DK.dd : DK → Option D
  | .i n => some (.int n)
  | .s x => if okS x then some (.str x) else none
  | .t ks => match at0s ks with
    | some ds => some (.tup ds)
    | none => none
def keysD : List DK → Option (List D)
  | [] => some []
  | k :: ks => match k.dd with
    | some d => match keysD ks with
      | some r => some (d :: r)
      | none => none
    | none => none
section
variable {K : PySem.W.Frag} {mg : Str → Option Value} {P H : Hp}
theorem keysD_len : ∀ {ks : List DK} {ds : List D}, keysD ks = some ds → ds.length = ks.length
  | [], _, h => by cases h; rfl
  | k :: ks, ds, h => by
    unfold keysD at h
    split at h
    · split at h
      · rename_i r hr
        cases h
        simp [keysD_len hr]
      · cases h
    · cases h
theorem keysD_get : ∀ {ks : List DK} {ds : List D} {i : Nat} {d : D}, keysD ks = some ds → ds[i]? = some d → ∃ k, ks[i]? = some k ∧ k.dd = some d
  | [], _, i, d, h, e => by cases h; simp at e
  | k :: ks, ds, i, d, h, e => by
    unfold keysD at h
    split at h
    · rename_i d0 hd0
      split at h
      · rename_i r hr
        cases h
        cases i with
        | zero => simp at e; subst e; exact ⟨k, rfl, hd0⟩
        | succ i => exact keysD_get (i := i) hr (by simpa using e)
      · cases h
    · cases h
theorem dd_flat {k : DK} {d : D} (h : k.dd = some d) (nT : k.isT = false) : Rep K mg P d (kV (keyK k)) := by
  cases k with
  | i n => cases h; exact .int n
  | s x =>
    simp only [DK.dd, Option.ite_none_right_eq_some] at h
    obtain ⟨h, e⟩ := h
    cases e
    exact .str x (okS_of h)
  | t x => simp [DK.isT] at nT
theorem at0s_rep : ∀ {ks : List (Int ⊕ List Nat)} {ds : List D}, at0s ks = some ds → RepL K mg P ds ((ks.map k0).map kV)
  | [], _, h => by cases h; exact .nil
  | k :: ks, ds, h => by
    unfold at0s at h
    split at h
    · rename_i d0 hd0
      split at h
      · rename_i r hr
        cases h
        refine .cons ?_ (at0s_rep hr)
        cases k with
        | inl n => cases hd0; exact .int n
        | inr s =>
          simp only [at0, Option.ite_none_right_eq_some] at hd0
          obtain ⟨h, e⟩ := hd0
          cases e
          exact .str s (okS_of h)
      · cases h
    · cases h
/-- a tuple that stands becomes known -/
theorem Gr.know {P H : Hp} (e : Ex P H) {p : Addr} {xs : List V} (h : H p = some (.tup xs)) : Gr P H (upd P p (.tup xs)) H := by
  have eP : Ex P (upd P p (.tup xs)) := fun a o q => by
    by_cases z : a = p
    · subst z; rw [upd_same, ← e _ _ q, h]
    · rw [upd_ne z]; exact q
  refine ⟨eP, Ex.refl H, fun a o q => ?_, fun a q => ?_⟩
  · by_cases z : a = p
    · subst z; rw [upd_same] at q; rw [h, q]
    · rw [upd_ne z] at q; exact e _ _ q
  · by_cases z : a = p
    · subst z; exact .inr (.inr ⟨xs, h⟩)
    · rw [upd_ne z] at q; exact .inl q
theorem kv_at {κ : Type} {kf : DK → κ} {ks : List DK} {kvs : List (κ × V)} (h : kvs.map (·.1) = ks.map kf) {i : Nat} {k : DK} (hk : ks[i]? = some k) : ∃ v, kvs[i]? = some (kf k, v) := by
  have h1 : (kvs.map (·.1))[i]? = some (kf k) := by rw [h, List.getElem?_map, hk]; rfl
  rw [List.getElem?_map] at h1
  cases e : kvs[i]? with
  | none => rw [e] at h1; cases h1
  | some p =>
    rw [e] at h1
    have h1 : p.1 = kf k := by simpa using h1
    exact ⟨p.2, by rw [← h1]⟩
theorem items_keys {a : Addr} {o : Obj} {kvs : List (Key × V)} {ks : List DK} {ds : List D} (h : P a = some (.frz o (.dK kvs))) (hk : KsK ks (kvs.map (·.1))) (hd : keysD ks = some ds) : ItemsOf K mg (Itk a o kvs) ds P := by
  obtain ⟨e1, e2⟩ := hk.is
  have hl : kvs.length = ds.length := by rw [keysD_len hd, ← List.length_map (f := fun x : Key × V => x.1), e1, List.length_map]
  refine ⟨fun i d hi P1 H1 x1 x2 => ?_, fun P1 H1 x1 x2 => ⟨(x1.trans x2) _ _ h, by omega⟩⟩
  obtain ⟨k, g1, g2⟩ := keysD_get hd hi
  obtain ⟨v, g3⟩ := kv_at e1 g1
  have li := (List.getElem?_eq_some_iff.mp hi).1
  refine ⟨⟨(x1.trans x2) _ _ h, by omega⟩, fun x H2 ⟨e, k', v', g4, ex⟩ => ?_⟩
  subst e ex
  rw [g3] at g4; cases g4
  exact ⟨P1, .refl x2, dd_flat g2 (e2 _ (List.mem_of_getElem? g1))⟩
theorem items_keysT {a : Addr} {o : Obj} {kvs : List (List Key × V)} {ks : List DK} {ds : List D} (h : P a = some (.frz o (.dT kvs))) (hk : KsT ks (kvs.map (·.1))) (hd : keysD ks = some ds) : ItemsOf K mg (Itkt a o kvs) ds P := by
  obtain ⟨e1, e2⟩ := hk.is
  have hl : kvs.length = ds.length := by rw [keysD_len hd, ← List.length_map (f := fun x : List Key × V => x.1), e1, List.length_map]
  refine ⟨fun i d hi P1 H1 x1 x2 => ?_, fun P1 H1 x1 x2 => ⟨(x1.trans x2) _ _ h, by omega⟩⟩
  obtain ⟨k, g1, g2⟩ := keysD_get hd hi
  obtain ⟨v, g3⟩ := kv_at e1 g1
  have li := (List.getElem?_eq_some_iff.mp hi).1
  refine ⟨⟨(x1.trans x2) _ _ h, by omega⟩, fun x H2 ⟨e, k', v', q, g4, ex, hq⟩ => ?_⟩
  subst e ex
  rw [g3] at g4; cases g4
  have hT := e2 _ (List.mem_of_getElem? g1)
  cases k with
  | i n => simp [DK.isT] at hT
  | s n => simp [DK.isT] at hT
  | t xs =>
    simp only [DK.dd] at g2
    split at g2
    · rename_i zs hz
      cases g2
      exact ⟨_, Gr.know x2 hq, .tup upd_same (at0s_rep hz)⟩
    · cases g2
theorem items_vals {a : Addr} {o : Obj} {kvs : List (Key × V)} {ds : List D} (h : P a = some (.frz o (.dK kvs))) (r : RepL K mg P ds (kvs.map (·.2))) : ItemsOf K mg (Itd a o kvs) ds P := by
  have hl : kvs.length = ds.length := by rw [r.length, List.length_map]
  refine ⟨fun i d hi P1 H1 x1 x2 => ?_, fun P1 H1 x1 x2 => ⟨(x1.trans x2) _ _ h, by omega⟩⟩
  have li := (List.getElem?_eq_some_iff.mp hi).1
  obtain ⟨v, g1, g2⟩ := r.get hi
  refine ⟨⟨(x1.trans x2) _ _ h, by omega⟩, fun x H2 ⟨e, k', g4⟩ => ?_⟩
  subst e
  rw [List.getElem?_map, g4] at g1
  cases g1
  exact ⟨P1, .refl x2, g2.mono x1⟩
def pairsD : List D → List D → List D
  | k :: ks, v :: vs => .tup [k, v] :: pairsD ks vs
  | _, _ => []
theorem pairsD_get : ∀ {ks vs : List D} {i : Nat} {d : D}, (pairsD ks vs)[i]? = some d → ∃ k v, ks[i]? = some k ∧ vs[i]? = some v ∧ d = .tup [k, v]
  | k :: ks, v :: vs, 0, d, h => by simp [pairsD] at h; exact ⟨k, v, rfl, rfl, h.symm⟩
  | k :: ks, v :: vs, i + 1, d, h => by
    simp only [pairsD, List.getElem?_cons_succ] at h
    exact pairsD_get (i := i) h
  | [], _, i, d, h => by simp [pairsD] at h
  | _ :: _, [], i, d, h => by simp [pairsD] at h
theorem pairsD_len : ∀ {ks vs : List D}, (pairsD ks vs).length = min ks.length vs.length
  | k :: ks, v :: vs => by simp only [pairsD, List.length_cons, pairsD_len]; omega
  | [], vs => by simp [pairsD]
  | _ :: _, [] => by simp [pairsD]
theorem items_items {a : Addr} {o : Obj} {kvs : List (Key × V)} {ks : List DK} {kd ds : List D} (h : P a = some (.frz o (.dK kvs))) (hk : KsK ks (kvs.map (·.1))) (hd : keysD ks = some kd) (r : RepL K mg P ds (kvs.map (·.2))) : ItemsOf K mg (Iti a o kvs) (pairsD kd ds) P := by
  obtain ⟨e1, e2⟩ := hk.is
  have hl : kvs.length = kd.length := by rw [keysD_len hd, ← List.length_map (f := fun x : Key × V => x.1), e1, List.length_map]
  have hl2 : kvs.length = ds.length := by rw [r.length, List.length_map]
  refine ⟨fun i d hi P1 H1 x1 x2 => ?_, fun P1 H1 x1 x2 => ⟨(x1.trans x2) _ _ h, by rw [pairsD_len]; omega⟩⟩
  obtain ⟨kk, vv, f1, f2, f3⟩ := pairsD_get hi
  subst f3
  obtain ⟨k, g1, g2⟩ := keysD_get hd f1
  obtain ⟨v, g3⟩ := kv_at e1 g1
  have li := (List.getElem?_eq_some_iff.mp f1).1
  refine ⟨⟨(x1.trans x2) _ _ h, by omega⟩, fun x H2 ⟨T, k', v', g4, ex, hT, eH⟩ => ?_⟩
  subst ex eH
  rw [g3] at g4; cases g4
  obtain ⟨v2, q1, q2⟩ := r.get f2
  rw [List.getElem?_map, g3] at q1
  cases q1
  have nP := fresh_back x2 hT
  exact ⟨_, Gr.add x2 hT, .tup upd_same (.cons (dd_flat g2 (e2 _ (List.mem_of_getElem? g1))) (.cons (q2.mono (x1.trans (Ex.new nP))) .nil))⟩
theorem items_enum {a : Addr} {ds : List D} {vs : List V} (h : SqL K P a vs) (r : RepL K mg P ds vs) : ItemsOf K mg (Ite K a) (pairsD ((List.range ds.length).map fun (i : Nat) => D.int (i : Int)) ds) P := by
  refine ⟨fun i d hi P1 H1 x1 x2 => ?_, fun P1 H1 x1 x2 => ⟨vs, ex_l (x1.trans x2) h, by rw [pairsD_len, ← r.length]; simp⟩⟩
  obtain ⟨kk, vv, f1, f2, f3⟩ := pairsD_get hi
  subst f3
  obtain ⟨v, g1, g2⟩ := r.get f2
  refine ⟨⟨vs, v, ex_l (x1.trans x2) h, g1⟩, fun x H2 ⟨T, x', ex, hT, eH, y⟩ => ?_⟩
  subst ex eH
  have := y vs (ex_l (x1.trans x2) h)
  rw [g1] at this; cases this
  have nP := fresh_back x2 hT
  have li := (List.getElem?_eq_some_iff.mp f2).1
  rw [List.getElem?_map, List.getElem?_range li] at f1
  cases f1
  exact ⟨_, Gr.add x2 hT, .tup upd_same (.cons (.int _) (.cons (g2.mono (x1.trans (Ex.new nP))) .nil))⟩
theorem items_zip {a b : Addr} {ds es : List D} {vs us : List V} (h : SqL K P a vs) (r : RepL K mg P ds vs) (h' : SqL K P b us) (r' : RepL K mg P es us) : ItemsOf K mg (Itz K a b) (pairsD ds es) P := by
  refine ⟨fun i d hi P1 H1 x1 x2 => ?_, fun P1 H1 x1 x2 => ⟨vs, us, ex_l (x1.trans x2) h, ex_l (x1.trans x2) h', by rw [pairsD_len, ← r.length, ← r'.length]; omega⟩⟩
  obtain ⟨kk, vv, f1, f2, f3⟩ := pairsD_get hi
  subst f3
  obtain ⟨v, g1, g2⟩ := r.get f1
  obtain ⟨u, g3, g4⟩ := r'.get f2
  refine ⟨⟨vs, us, v, u, ex_l (x1.trans x2) h, ex_l (x1.trans x2) h', g1, g3⟩, fun x H2 ⟨T, x', y', ex, hT, eH, y1, y2⟩ => ?_⟩
  subst ex eH
  have q1 := y1 vs (ex_l (x1.trans x2) h)
  have q2 := y2 us (ex_l (x1.trans x2) h')
  rw [g1] at q1; cases q1
  rw [g3] at q2; cases q2
  have nP := fresh_back x2 hT
  exact ⟨_, Gr.add x2 hT, .tup upd_same (.cons (g2.mono (x1.trans (Ex.new nP))) (.cons (g4.mono (x1.trans (Ex.new nP))) .nil))⟩
theorem items_zipT {a b : Addr} {ds es : List D} {vs us : List V} (h : SqT K P a vs) (r : RepL K mg P ds vs) (h' : SqT K P b us) (r' : RepL K mg P es us) : ItemsOf K mg (RZ.ItzT K a b) (pairsD ds es) P := by
  refine ⟨fun i d hi P1 H1 x1 x2 => ?_, fun P1 H1 x1 x2 => ⟨vs, us, ex_t (x1.trans x2) h, ex_t (x1.trans x2) h', by rw [pairsD_len, ← r.length, ← r'.length]; omega⟩⟩
  obtain ⟨kk, vv, f1, f2, f3⟩ := pairsD_get hi
  subst f3
  obtain ⟨v, g1, g2⟩ := r.get f1
  obtain ⟨u, g3, g4⟩ := r'.get f2
  refine ⟨⟨vs, us, v, u, ex_t (x1.trans x2) h, ex_t (x1.trans x2) h', g1, g3⟩, fun x H2 ⟨T, x', y', ex, hT, eH, y1, y2⟩ => ?_⟩
  subst ex eH
  have q1 := y1 vs (ex_t (x1.trans x2) h)
  have q2 := y2 us (ex_t (x1.trans x2) h')
  rw [g1] at q1; cases q1
  rw [g3] at q2; cases q2
  have nP := fresh_back x2 hT
  exact ⟨_, Gr.add x2 hT, .tup upd_same (.cons (g2.mono (x1.trans (Ex.new nP))) (.cons (g4.mono (x1.trans (Ex.new nP))) .nil))⟩
end

section
variable {X : Cx} {W : WX} {En : Ent} {e a b c tg iter elt kx vx : Expr} {es ifs : List Expr} {st : Stmt} {sts sts2 : List Stmt} {pos p1 p2 p3 apos cpos p : Pos} {f fa fb fc fi fv fk : Ga → R (Res × Ga)} {g : Ga → R (List Res × Ga)} {h h1 h2 : Ga → R (Fl × Ga)}
theorem pi_or {w1 w2 : TI} (h1 : PI X tg e w1) (h2 : PI X tg e w2) : PI X tg e (fun σ H R => w1 σ H R ∨ w2 σ H R) := ⟨fun pins s σ H R I h => h.elim (h1.run pins s σ H R I) (h2.run pins s σ H R I)⟩
/-- the items of a value -/
def itemsA : D → Option (List D)
  | .lst ds => some ds
  | .tup ds => some ds
  | .scr ds => some ds
  | .str s => some (signs s)
  | .dct _ ks _ => keysD ks
  | _ => none
def iAnyV (f : Ga → R (Res × Ga)) : Ga → R (List D × Ga) := fun γ => f γ >>= fun p => valOf p.1 >>= fun d => ofO (itemsA d) >>= fun ds => .ok (ds, p.2)
theorem ei_any (he : Ev X W En e f) : EvI X W En tg e (iAnyV f) := by
  obtain ⟨t, p, he⟩ := he
  refine ⟨_, pi_or (pi_any p) (pi_keys p), fun σ H P γ Rr S q => ?_⟩
  unfold iAnyV at q
  cases e1 : f γ with
  | no => rw [e1] at q; exact q.elim
  | exc c => rw [e1] at q; exact .inl (he σ H P γ _ S (by rw [e1]; exact q))
  | ok r =>
    obtain ⟨r, γ1⟩ := r
    rw [e1, R.ok_bind] at q
    cases r with
    | cell i => exact q.elim
    | val d =>
      by_cases hd : ∃ t ks vs, d = .dct t ks vs
      · obtain ⟨t, ks, vs, rfl⟩ := hd
        obtain ⟨ds, e2, q2⟩ := ofO_ok (C := PostG X W En (repI X) σ P H γ Rr) (fun z => z) q
        refine .inr (he σ H P γ _ S ?_)
        rw [e1]
        intro v H1 P1 S1 T1 rv
        have rv : Rep X.K X.mg P1 (.dct t ks vs) v := rv
        cases rv with
        | dctK hl hk r => exact ⟨_, _, rfl, .inl ⟨_, S1.sub _ _ hl, q2 _ H1 P1 S1 T1 (items_keys hl hk e2)⟩⟩
        | dctT hl hk r => exact ⟨_, _, rfl, .inr ⟨_, S1.sub _ _ hl, q2 _ H1 P1 S1 T1 (items_keysT hl hk e2)⟩⟩
      · refine .inl (he σ H P γ _ S ?_)
        rw [e1]
        intro v H1 P1 S1 T1 rv
        have rv : Rep X.K X.mg P1 d v := rv
        cases rv with
        | lst hl r => exact .inl ⟨_, rfl, ⟨_, .of (S1.sub _ _ hl)⟩, q _ H1 P1 S1 T1 (items_lst (.of hl) r)⟩
        | tup hl r => exact .inr (.inl ⟨_, rfl, ⟨_, .of (S1.sub _ _ hl)⟩, q _ H1 P1 S1 T1 (items_tup (.of hl) r)⟩)
        | scr hl r => exact .inl ⟨_, rfl, ⟨_, ex_l S1.sub hl⟩, q _ H1 P1 S1 T1 (items_lst hl r)⟩
        | str s hs => exact .inr (.inr ⟨_, rfl, q _ H1 P1 S1 T1 items_str⟩)
        | dctK a b c => exact absurd ⟨_, _, _, rfl⟩ hd
        | dctT a b c => exact absurd ⟨_, _, _, rfl⟩ hd
        | _ => exact q.elim
/-- a value, then what is walked of it -/
def iOf (F : D → Option (List D)) (f : Ga → R (Res × Ga)) : Ga → R (List D × Ga) := fun γ => f γ >>= fun p => valOf p.1 >>= fun d => ofO (F d) >>= fun ds => .ok (ds, p.2)
theorem iof_go {F : D → Option (List D)} {t : TE} (he : ∀ σ H P γ Q, Sat X.K X.mg En P σ H γ → PostG X W En (repE X) σ P H γ Q (f γ) → t σ H Q) {σ : L2.St} {H P : Hp} {γ : Ga} {Rr : It → Hp → Prop} (S : Sat X.K X.mg En P σ H γ) (q : PostG X W En (repI X) σ P H γ Rr (iOf F f γ))
    {R' : V → Hp → Prop} (hk : ∀ P2 H2 d v ds, Ex P2 H2 → Rep X.K X.mg P2 d v → F d = some ds → (∀ J, ItemsOf X.K X.mg J ds P2 → Rr J H2) → R' v H2) : t σ H R' := by
  refine he σ H P γ _ S ?_
  unfold iOf at q
  cases e1 : f γ with
  | no => rw [e1] at q; exact q
  | exc c => rw [e1] at q; exact q
  | ok r =>
    obtain ⟨r, γ1⟩ := r
    rw [e1, R.ok_bind] at q
    intro v H1 P1 S1 T1 rv
    obtain ⟨d, e2, q2⟩ := valOf_bind (C := PostG X W En (repI X) σ P H γ Rr) (fun z => z) q
    simp only at e2
    subst e2
    obtain ⟨ds, e3, q3⟩ := ofO_ok (C := PostG X W En (repI X) σ P H γ Rr) (fun z => z) q2
    exact hk P1 H1 d v ds S1.sub rv e3 fun J hJ => q3 J H1 P1 S1 T1 hJ
def dValues : D → Option (List D)
  | .dct false _ vs => some vs
  | _ => none
def dItems : D → Option (List D)
  | .dct false ks vs => (keysD ks).map fun kd => pairsD kd vs
  | _ => none
theorem ei_values (he : Ev X W En e f) (hbase : attributeBase e "values" X.env (eval e X.env) = eval e X.env := by rfl) (hline : (apos.endLine == cpos.line) = true := by rfl) : EvI X W En tg (.Call (.Attribute e "values" apos) [] [] cpos) (iOf dValues f) := by
  obtain ⟨t, p, he⟩ := he
  refine ⟨_, pi_values p hbase hline, fun σ H P γ Rr S q => iof_go he S q fun P2 H2 d v ds x r ed k => ?_⟩
  cases r with
  | dctK hl hk r => cases ed; exact ⟨_, _, _, rfl, x _ _ hl, k _ (items_vals hl r)⟩
  | _ => cases ed
theorem ei_items {elts : List Expr} {kk : Nat} {tpos : Pos} (he : Ev X W En e f) (hbase : attributeBase e "items" X.env (eval e X.env) = eval e X.env := by rfl) (hline : (apos.endLine == cpos.line) = true := by rfl) : EvI X W En (.Tuple elts kk tpos) (.Call (.Attribute e "items" apos) [] [] cpos) (iOf dItems f) := by
  obtain ⟨t, p, he⟩ := he
  refine ⟨_, pi_items p hbase hline, fun σ H P γ Rr S q => iof_go he S q fun P2 H2 d v ds x r ed k => ?_⟩
  cases r with
  | @dctK a o ks us kvs hl hk r =>
    simp only [dItems, Option.map_eq_some_iff] at ed
    obtain ⟨kd, e1, rfl⟩ := ed
    exact ⟨_, _, _, rfl, x _ _ hl, k _ (items_items hl hk e1 r)⟩
  | _ => cases ed
/-- arguments that are trees, then what is walked -/
def iArgs (F : List D → Option (List D)) (g : Ga → R (List Res × Ga)) : Ga → R (List D × Ga) := fun γ => g γ >>= fun p => vals p.1 >>= fun ds => ofO (F ds) >>= fun xs => .ok (xs, p.2)
theorem iargs_go {F : List D → Option (List D)} {t : TA} (h : ∀ σ H P γ Q, Sat X.K X.mg En P σ H γ → PostG X W En (repA X) σ P H γ Q (g γ) → t σ H Q) {σ : L2.St} {H P : Hp} {γ : Ga} {Rr : It → Hp → Prop} (S : Sat X.K X.mg En P σ H γ) (q : PostG X W En (repI X) σ P H γ Rr (iArgs F g γ))
    {R' : List V → Hp → Prop} (hk : ∀ P2 H2 ds vs xs, Ex P2 H2 → RepL X.K X.mg P2 ds vs → F ds = some xs → (∀ J, ItemsOf X.K X.mg J xs P2 → Rr J H2) → R' vs H2) : t σ H R' :=
  args_go (rep := repI X) (k := fun rs γ => vals rs >>= fun ds => ofO (F ds) >>= fun xs => .ok (xs, γ)) h hrepI S q fun P2 H2 γ2 rs vs S2 T2 r q2 => by
    rcases vals_cases rs with ⟨ds, e⟩ | e
    · rw [e, R.ok_bind] at q2
      obtain ⟨xs, e2, q3⟩ := ofO_ok (C := PostG X W En (repI X) σ P2 H2 γ2 Rr) (fun z => z) q2
      exact hk P2 H2 ds vs xs S2.sub (vals_rep r e) e2 fun J hJ => q3 J H2 P2 S2 .refl hJ
    · rw [e] at q2; exact q2.elim
def dEnumL : List D → Option (List D)
  | [.lst ds] => some (pairsD ((List.range ds.length).map fun (i : Nat) => D.int (i : Int)) ds)
  | [.scr ds] => some (pairsD ((List.range ds.length).map fun (i : Nat) => D.int (i : Int)) ds)
  | _ => none
theorem ei_enumL {elts : List Expr} {kk : Nat} {tpos : Pos} (hg : Gl X "enumerate") (hm : X.mg "enumerate" = none) (ha : EvA X W En [e] g) (hs : starEach [e] X.env = [(false, eval e X.env)] := by rfl) : EvI X W En (.Tuple elts kk tpos) (.Call (.Name "enumerate" p) [e] [] pos) (iArgs dEnumL g) := by
  obtain ⟨t, pa, h⟩ := ha
  refine ⟨_, pi_enum hg hm pa hs, fun σ H P γ Rr S q => iargs_go h S q fun P2 H2 ds vs xs x r e k => ?_⟩
  unfold dEnumL at e
  split at e
  · cases e
    cases r with
    | cons r0 r1 =>
      cases r1
      cases r0 with
      | lst hl r => exact ⟨_, _, rfl, .of (x _ _ hl), k _ (items_enum (.of hl) r)⟩
  · cases e
    cases r with
    | cons r0 r1 =>
      cases r1
      cases r0 with
      | scr hl r => exact ⟨_, _, rfl, ex_l x hl, k _ (items_enum hl r)⟩
  · cases e
def dZip : List D → Option (List D)
  | [.lst ds, .lst es] => some (pairsD ds es)
  | [.tup ds, .tup es] => some (pairsD ds es)
  | _ => none
theorem ei_zip {elts : List Expr} {kk : Nat} {tpos : Pos} (hg : Gl X "zip") (hm : X.mg "zip" = none) (ha : EvA X W En [a, b] g) (hs : starEach [a, b] X.env = (false, eval a X.env) :: starEach [b] X.env := by rfl) (hpl : (backTo pos (starEach [b] X.env)).any (·.1) = false := by rfl) :
    EvI X W En (.Tuple elts kk tpos) (.Call (.Name "zip" p) [a, b] [] pos) (iArgs dZip g) := by
  obtain ⟨t, pa, h⟩ := ha
  refine ⟨_, RZ.pi_zipA hg hm pa hs hpl, fun σ H P γ Rr S q => iargs_go h S q fun P2 H2 ds vs xs x r e k => ?_⟩
  unfold dZip at e
  split at e
  · cases e
    cases r with
    | cons r0 r1 =>
      cases r1 with
      | cons r1 r2 =>
        cases r2
        cases r0 with
        | lst hl r =>
          cases r1 with
          | lst hl2 r2 => exact ⟨_, _, _, _, rfl, .inl ⟨.of (x _ _ hl), .of (x _ _ hl2), k _ (items_zip (.of hl) r (.of hl2) r2)⟩⟩
  · cases e
    cases r with
    | cons r0 r1 =>
      cases r1 with
      | cons r1 r2 =>
        cases r2
        cases r0 with
        | tup hl r =>
          cases r1 with
          | tup hl2 r2 => exact ⟨_, _, _, _, rfl, .inr ⟨.of (x _ _ hl), .of (x _ _ hl2), k _ (items_zipT (.of hl) r (.of hl2) r2)⟩⟩
  · cases e
end
end DL
end
section
set_option Elab.async false
set_option linter.all false
set_option maxRecDepth 100000
namespace DL
open PySem L2 Evl PySem.Spec PyProof.Rows

section
variable {X : Cx} {W : WX} {En : Ent}
theorem RepWs.inv1 {K : PySem.W.Frag} {mg : Str → Option Value} {P H : Hp} {d : D} {ds : List D} {vs : List V} (h : RepWs K mg P H (d :: ds) vs) : ∃ v us, vs = v :: us ∧ RepW K mg P H d v ∧ RepWs K mg P H ds us := by
  cases h with
  | cons a b => exact ⟨_, _, rfl, a, b⟩
theorem len_strV' (s : List Nat) : (strV s).length = s.length := by simp [strV, Str.length]

/-! ### len -/
def dLen : List D → Option D
  | [.lst ds] => some (.int ds.length)
  | [.tup ds] => some (.int ds.length)
  | [.scr ds] => some (.int ds.length)
  | [.str s] => some (.int s.length)
  | [.dct _ ks _] => some (.int ks.length)
  | _ => none
def rLenD2 : List V → Hp → VK → Prop := fun xs H Q => ∃ a kvs, xs = [V.ref a] ∧ Rd H a (.dK kvs) ∧ Q (.int kvs.length) H
theorem call_lenD2 : CallR X (.builtin "len") rLenD2 := by
  intro pins s σ H xs us Q I r h
  obtain ⟨a, kvs, rfl, ha, q⟩ := h
  obtain ⟨u, rfl, ru⟩ := vals1 r
  cases ru
  exact d_len I ha fun t s' I' => ⟨.int kvs.length, H, I', ⟨t, rfl⟩, q⟩
def rLenT2 : List V → Hp → VK → Prop := fun xs H Q => ∃ (a : Addr) (kvs : List (List Key × V)), xs = [V.ref a] ∧ Rd H a (.dT kvs) ∧ Q (.int kvs.length) H
theorem call_lenT2 : CallR X (.builtin "len") rLenT2 := by
  intro pins s σ H xs us Q I r h
  obtain ⟨a, kvs, rfl, ha, q⟩ := h
  obtain ⟨u, rfl, ru⟩ := vals1 r
  cases ru
  obtain ⟨z, hd, ys, rel, dd⟩ := dt_rd I.hok ha
  have hl : kvs.length = ys.length := Paired.length rel
  refine call_len_dictH hd dd (by rw [← hl]; rw [sizeLine_eq] at z; omega) ?_
  rw [← hl]
  exact ⟨.int kvs.length, H, I.tok _, ⟨_, rfl⟩, q⟩
theorem cr_len : CallR X (.builtin "len") (fun xs H Q => (((∃ p ys, xs = [.ref p] ∧ (SqL X.K H p ys ∨ SqT X.K H p ys) ∧ Q (.int ys.length) H) ∨ (∃ z, xs = [.str z] ∧ z.length ≤ sizeLine ∧ Q (.int z.length) H)) ∨ rLenD2 xs H Q) ∨ rLenT2 xs H Q) := ((call_len_seq.or call_len_str).or call_lenD2).or call_lenT2
theorem kst_len : ∀ {ks : List DK} {us : List (List Key)}, KsT ks us → ks.length = us.length
  | _, _, .nil => rfl
  | _, _, .t h => congrArg (· + 1) (kst_len h)
theorem cs_len : CallS X (fun xs H Q => (((∃ p ys, xs = [.ref p] ∧ (SqL X.K H p ys ∨ SqT X.K H p ys) ∧ Q (.int ys.length) H) ∨ (∃ z, xs = [.str z] ∧ z.length ≤ sizeLine ∧ Q (.int z.length) H)) ∨ rLenD2 xs H Q) ∨ rLenT2 xs H Q) dLen := fun P H xs as d Q e r hf q => by
  unfold dLen at hf
  split at hf <;> first | cases hf | skip
  · obtain ⟨v, rfl, r1⟩ := r.one; clear r
    cases r1 with
    | lst h r => exact .inl (.inl (.inl ⟨_, _, rfl, .inl (.of h), by rw [← r.length]; exact q _ _ _ (.refl e) (.int _)⟩))
  · obtain ⟨v, rfl, r1⟩ := r.one; clear r
    cases r1 with
    | tup h r => exact .inl (.inl (.inl ⟨_, _, rfl, .inr (.of (e _ _ h)), by rw [← r.length]; exact q _ _ _ (.refl e) (.int _)⟩))
  · obtain ⟨v, rfl, r1⟩ := r.one; clear r
    cases r1 with
    | scr h r => exact .inl (.inl (.inl ⟨_, _, rfl, .inl (ex_l e h), by rw [← r.length]; exact q _ _ _ (.refl e) (.int _)⟩))
  · obtain ⟨v, rfl, r1⟩ := r.one; clear r
    cases r1 with
    | str s h => exact .inl (.inl (.inr ⟨_, rfl, by rw [len_strV']; exact h, by rw [len_strV']; exact q _ _ _ (.refl e) (.int _)⟩))
  · obtain ⟨v, rfl, r1⟩ := r.one; clear r
    cases r1 with
    | dctK h k r =>
      refine .inl (.inr ⟨_, _, rfl, h, ?_⟩)
      have hl := congrArg List.length k.is.1
      rw [List.length_map, List.length_map] at hl
      rw [hl]
      exact q _ _ _ (.refl e) (.int _)
    | dctT h k r =>
      refine .inr ⟨_, _, rfl, h, ?_⟩
      have hl := kst_len k
      rw [List.length_map] at hl
      rw [← hl]
      exact q _ _ _ (.refl e) (.int _)

/-! ### int, abs, max, min -/
def dInt1 : List D → Option D
  | [.int i] => some (.int i)
  | [.bl k] => some (.int (if k then 1 else 0))
  | _ => none
theorem cs_int : CallS X (fun xs H Q => (∃ i, xs = [.int i] ∧ Q (.int i) H) ∨ ∃ k, xs = [.bl k] ∧ Q (.int (if k then 1 else 0)) H) dInt1 := fun P H xs as d Q e r hf q => by
  unfold dInt1 at hf
  split at hf <;> cases hf
  · obtain ⟨v, rfl, r1⟩ := r.one; clear r
    cases r1; exact .inl ⟨_, rfl, q _ _ _ (.refl e) (.int _)⟩
  · obtain ⟨v, rfl, r1⟩ := r.one; clear r
    cases r1; exact .inr ⟨_, rfl, q _ _ _ (.refl e) (.int _)⟩
def dAbs : List D → Option D
  | [.int i] => some (.int (if i < 0 then -i else i))
  | _ => none
theorem cs_abs : CallS X (fun xs H Q => ∃ i, xs = [.int i] ∧ Q (.int (if i < 0 then -i else i)) H) dAbs := fun P H xs as d Q e r hf q => by
  unfold dAbs at hf
  split at hf <;> cases hf
  obtain ⟨v, rfl, r1⟩ := r.one; clear r
  cases r1; exact ⟨_, rfl, q _ _ _ (.refl e) (.int _)⟩
def dInts : List D → Option (List Int)
  | [] => some []
  | .int i :: ds => match dInts ds with
    | some r => some (i :: r)
    | none => none
  | _ => none
theorem dInts_rep {K : PySem.W.Frag} {mg : Str → Option Value} {P : Hp} : ∀ {ds : List D} {ns : List Int} {vs : List V}, dInts ds = some ns → RepL K mg P ds vs → vs = ns.map V.int ∧ ds = ns.map D.int
  | [], _, _, h, .nil => by cases h; exact ⟨rfl, rfl⟩
  | d :: ds, _, _, h, .cons r0 r => by
    cases d with
    | int i =>
      unfold dInts at h
      split at h <;> cases h
      rename_i q hq
      obtain ⟨e1, e2⟩ := dInts_rep hq r
      cases r0
      exact ⟨by rw [e1]; rfl, by rw [e2]; rfl⟩
    | _ => cases h
def maxI : Int → List Int → Int
  | m, [] => m
  | m, x :: xs => maxI (if m < x then x else m) xs
def minI : Int → List Int → Int
  | m, [] => m
  | m, x :: xs => minI (if x < m then x else m) xs
theorem maxI_spec : ∀ (xs : List Int) (m : Int), (maxI m xs = m ∨ maxI m xs ∈ xs) ∧ m ≤ maxI m xs ∧ ∀ y ∈ xs, y ≤ maxI m xs
  | [], m => ⟨.inl rfl, Int.le_refl _, fun _ h => by cases h⟩
  | x :: xs, m => by
    unfold maxI
    by_cases c : m < x
    · rw [if_pos c]
      obtain ⟨h1, h2, h3⟩ := maxI_spec xs x
      refine ⟨.inr ?_, by omega, fun y hy => ?_⟩
      · rcases h1 with h1 | h1
        · rw [h1]; exact List.mem_cons_self
        · exact List.mem_cons_of_mem _ h1
      · rcases List.mem_cons.mp hy with e | hy
        · omega
        · exact h3 y hy
    · rw [if_neg c]
      obtain ⟨h1, h2, h3⟩ := maxI_spec xs m
      refine ⟨h1.imp_right (List.mem_cons_of_mem _), by omega, fun y hy => ?_⟩
      rcases List.mem_cons.mp hy with e | hy
      · omega
      · exact h3 y hy
theorem minI_spec : ∀ (xs : List Int) (m : Int), (minI m xs = m ∨ minI m xs ∈ xs) ∧ minI m xs ≤ m ∧ ∀ y ∈ xs, minI m xs ≤ y
  | [], m => ⟨.inl rfl, Int.le_refl _, fun _ h => by cases h⟩
  | x :: xs, m => by
    unfold minI
    by_cases c : x < m
    · rw [if_pos c]
      obtain ⟨h1, h2, h3⟩ := minI_spec xs x
      refine ⟨.inr ?_, by omega, fun y hy => ?_⟩
      · rcases h1 with h1 | h1
        · rw [h1]; exact List.mem_cons_self
        · exact List.mem_cons_of_mem _ h1
      · rcases List.mem_cons.mp hy with e | hy
        · omega
        · exact h3 y hy
    · rw [if_neg c]
      obtain ⟨h1, h2, h3⟩ := minI_spec xs m
      refine ⟨h1.imp_right (List.mem_cons_of_mem _), by omega, fun y hy => ?_⟩
      rcases List.mem_cons.mp hy with e | hy
      · omega
      · exact h3 y hy
def dMax : List D → Option D
  | [.int i, .int j] => some (.int (if j > i then j else i))
  | [.lst ds] => match dInts ds with
    | some (m :: ns) => some (.int (maxI m ns))
    | _ => none
  | _ => none
def dMin : List D → Option D
  | [.int i, .int j] => some (.int (if j < i then j else i))
  | [.lst ds] => match dInts ds with
    | some (m :: ns) => some (.int (minI m ns))
    | _ => none
  | _ => none
theorem cr_maxA (hc : X.calm = true) : CallR X (.builtin "max") (fun xs H Q => (∃ i j, xs = [.int i, .int j] ∧ Q (.int (if j > i then j else i)) H) ∨ rMax X.K xs H Q) := (call_max2 hc).or (cr_max hc)
theorem cr_minA (hc : X.calm = true) : CallR X (.builtin "min") (fun xs H Q => (∃ i j, xs = [.int i, .int j] ∧ Q (.int (if j < i then j else i)) H) ∨ rMin X.K xs H Q) := (call_min2 hc).or (cr_min hc)
theorem mem_one {m y : Int} {ns : List Int} (h1 : m ∈ ns) (h2 : ∀ y ∈ ns, y ≤ m) (h3 : y ∈ ns) (h4 : ∀ z ∈ ns, z ≤ y) : m = y := by
  have a := h2 y h3; have b := h4 m h1; omega
theorem cs_max : CallS X (fun xs H Q => (∃ i j, xs = [.int i, .int j] ∧ Q (.int (if j > i then j else i)) H) ∨ rMax X.K xs H Q) dMax := fun P H xs as d Q e r hf q => by
  unfold dMax at hf
  split at hf
  · cases hf
    obtain ⟨v, w, rfl, r1, r2⟩ := r.two
    cases r1; cases r2; exact .inl ⟨_, _, rfl, q _ _ _ (.refl e) (.int _)⟩
  · split at hf <;> cases hf
    rename_i m ns hn
    obtain ⟨v, rfl, r1⟩ := r.one; clear r
    cases r1 with
    | lst h r =>
      obtain ⟨e1, _⟩ := dInts_rep hn r
      subst e1
      refine .inr ⟨_, m :: ns, rfl, .of h, by simp, fun k h1 h2 => ?_⟩
      obtain ⟨g1, g2, g3⟩ := maxI_spec ns m
      have := mem_one h1 h2 (y := maxI m ns) (by rcases g1 with g | g <;> simp [g]) (fun z hz => by
        rcases List.mem_cons.mp hz with rfl | hz
        · exact g2
        · exact g3 z hz)
      rw [this]
      exact q _ _ _ (.refl e) (.int _)
  · cases hf
theorem cs_min : CallS X (fun xs H Q => (∃ i j, xs = [.int i, .int j] ∧ Q (.int (if j < i then j else i)) H) ∨ rMin X.K xs H Q) dMin := fun P H xs as d Q e r hf q => by
  unfold dMin at hf
  split at hf
  · cases hf
    obtain ⟨v, w, rfl, r1, r2⟩ := r.two
    cases r1; cases r2; exact .inl ⟨_, _, rfl, q _ _ _ (.refl e) (.int _)⟩
  · split at hf <;> cases hf
    rename_i m ns hn
    obtain ⟨v, rfl, r1⟩ := r.one; clear r
    cases r1 with
    | lst h r =>
      obtain ⟨e1, _⟩ := dInts_rep hn r
      subst e1
      refine .inr ⟨_, m :: ns, rfl, .of h, by simp, fun k h1 h2 => ?_⟩
      obtain ⟨g1, g2, g3⟩ := minI_spec ns m
      have hk : k = minI m ns := by
        have a := h2 (minI m ns) (by rcases g1 with g | g <;> simp [g])
        have b : minI m ns ≤ k := by
          rcases List.mem_cons.mp h1 with rfl | h1
          · exact g2
          · exact g3 k h1
        omega
      rw [hk]
      exact q _ _ _ (.refl e) (.int _)
  · cases hf
def dSum : List D → Option D
  | [.lst ds] => (dInts ds).map fun ns => .int ns.sum
  | _ => none
theorem cs_sum : CallS X (rSum X.K) dSum := fun P H xs as d Q e r hf q => by
  unfold dSum at hf
  split at hf
  · obtain ⟨v, rfl, r1⟩ := r.one; clear r
    rw [Option.map_eq_some_iff] at hf
    obtain ⟨ns, hn, rfl⟩ := hf
    cases r1 with
    | lst h r =>
      obtain ⟨e1, _⟩ := dInts_rep hn r
      subst e1
      exact ⟨_, _, rfl, .of h, q _ _ _ (.refl e) (.int _)⟩
  · cases hf

/-! ### tuple, list -/
def dTuple : List D → Option D
  | [.lst ds] => some (.tup ds)
  | [.tup ds] => some (.tup ds)
  | _ => none
theorem cs_tuple : CallS X (fun xs H Q => ∃ p ys, xs = [.ref p] ∧ ((SqL X.K H p ys ∧ ∀ l, H l = none → Q (.ref l) (upd H l (.tup ys))) ∨ (SqT X.K H p ys ∧ Q (.ref p) H))) dTuple := fun P H xs as d Q e r hf q => by
  unfold dTuple at hf
  split at hf <;> cases hf
  · obtain ⟨v, rfl, r1⟩ := r.one; clear r
    cases r1 with
    | lst h r => exact ⟨_, _, rfl, .inl ⟨.of h, fun l hl => q _ _ _ (.add e hl) (.tup upd_same (r.mono (Ex.new (fresh_back e hl))))⟩⟩
  · obtain ⟨v, rfl, r1⟩ := r.one; clear r
    cases r1 with
    | tup h r => exact ⟨_, _, rfl, .inr ⟨.of (e _ _ h), q _ _ _ (.refl e) (.tup h r)⟩⟩
def dList : List D → Option D
  | [.lst ds] => some (.lst ds)
  | [.tup ds] => some (.lst ds)
  | [.scr ds] => some (.lst ds)
  | [.dct false ks _] => (keysD ks).map .lst
  | _ => none
def rListA (X : Cx) : List V → Hp → VK → Prop := fun xs H Q => (∃ p ys, xs = [.ref p] ∧ (SqL X.K H p ys ∨ SqT X.K H p ys) ∧ ∀ l, H l = none → Q (.ref l) (upd H l (.lst ys))) ∨ ∃ (a : Addr) (kvs : List (Key × V)), xs = [.ref a] ∧ Rd H a (.dK kvs) ∧ ∀ p, H p = none → Q (.ref p) (upd H p (.lst (kvs.map fun kv => kV kv.1)))
theorem cr_listA (hc : X.calm = true) : CallR X (.type "list") (rListA X) := call_list_of.or (call_listD hc)
theorem own_lst {K : PySem.W.Frag} {mg : Str → Option Value} {P H : Hp} {p : Addr} {ds : List D} {vs : List V} (r : RepL K mg P ds vs) : Own K mg P (upd H p (.lst vs)) (.lst ds) p := .inl ⟨_, _, rfl, upd_same, r⟩
theorem keys_rep {K : PySem.W.Frag} {mg : Str → Option Value} {P : Hp} : ∀ {ks : List DK} {kd : List D}, keysD ks = some kd → (∀ k ∈ ks, k.isT = false) → RepL K mg P kd ((ks.map keyK).map kV)
  | [], _, h, _ => by cases h; exact .nil
  | k :: ks, kd, h, ht => by
    unfold keysD at h
    split at h
    · rename_i d0 hd0
      split at h
      · rename_i r hr
        cases h
        exact .cons (dd_flat hd0 (ht k List.mem_cons_self)) (keys_rep hr fun z hz => ht z (List.mem_cons_of_mem _ hz))
      · cases h
    · cases h
theorem cf_list : CallF X (rListA X) dList := fun P H xs as d Q e r hf q => by
  unfold dList at hf
  split at hf
  · cases hf
    obtain ⟨v, rfl, r1⟩ := r.one; clear r
    cases r1 with
    | lst h r => exact .inl ⟨_, _, rfl, .inl (.of h), fun l hl => q _ _ hl (Ex.new hl) (own_lst r)⟩
  · cases hf
    obtain ⟨v, rfl, r1⟩ := r.one; clear r
    cases r1 with
    | tup h r => exact .inl ⟨_, _, rfl, .inr (.of (e _ _ h)), fun l hl => q _ _ hl (Ex.new hl) (own_lst r)⟩
  · cases hf
    obtain ⟨v, rfl, r1⟩ := r.one; clear r
    cases r1 with
    | scr h r => exact .inl ⟨_, _, rfl, .inl (ex_l e h), fun l hl => q _ _ hl (Ex.new hl) (own_lst r)⟩
  · rw [Option.map_eq_some_iff] at hf
    obtain ⟨kd, hk, rfl⟩ := hf
    obtain ⟨v, rfl, r1⟩ := r.one; clear r
    cases r1 with
    | @dctK a ks ds kvs h k r =>
      obtain ⟨e1, e2⟩ := k.is
      refine .inr ⟨_, _, rfl, h, fun p hp => q _ _ hp (Ex.new hp) (own_lst ?_)⟩
      have := keys_rep (K := X.K) (mg := X.mg) (P := P) hk e2
      rw [← e1, List.map_map] at this
      exact this
  · cases hf

/-! ### sorted -/
def insI (x : Int) : List Int → List Int
  | [] => [x]
  | y :: ys => if x ≤ y then x :: y :: ys else y :: insI x ys
def srtI : List Int → List Int
  | [] => []
  | x :: xs => insI x (srtI xs)
theorem insI_perm (x : Int) : ∀ ys : List Int, (insI x ys).Perm (x :: ys)
  | [] => .refl _
  | y :: ys => by
    unfold insI
    split
    · exact .refl _
    · exact ((insI_perm x ys).cons y).trans (.swap x y ys)
theorem srtI_perm : ∀ xs : List Int, (srtI xs).Perm xs
  | [] => .refl _
  | x :: xs => (insI_perm x _).trans ((srtI_perm xs).cons x)
theorem insI_pw (x : Int) : ∀ ys : List Int, ys.Pairwise (· ≤ ·) → (insI x ys).Pairwise (· ≤ ·)
  | [], _ => List.pairwise_singleton _ _
  | y :: ys, h => by
    unfold insI
    have h' := List.pairwise_cons.mp h
    split
    · rename_i c
      exact List.pairwise_cons.mpr ⟨fun z hz => (List.mem_cons.mp hz).elim (fun e => by rw [e]; exact c) fun m => Int.le_trans c (h'.1 z m), h⟩
    · rename_i c
      refine List.pairwise_cons.mpr ⟨fun z hz => ?_, insI_pw x ys h'.2⟩
      rcases List.mem_cons.mp ((insI_perm x ys).mem_iff.mp hz) with e | m
      · subst e; omega
      · exact h'.1 z m
theorem srtI_pw : ∀ xs : List Int, (srtI xs).Pairwise (· ≤ ·)
  | [] => .nil
  | x :: xs => insI_pw x _ (srtI_pw xs)
theorem srtI_uniq {ns ns' : List Int} (p : ns'.Perm ns) (s : ns'.Pairwise (· ≤ ·)) : ns' = srtI ns :=
  (p.trans (srtI_perm ns).symm).eq_of_pairwise (fun a b _ _ h1 h2 => Int.le_antisymm h1 h2) s (srtI_pw ns)
def leT (x y : List Nat) : Bool := !ltCps y x
def insT (x : List Nat) : List (List Nat) → List (List Nat)
  | [] => [x]
  | y :: ys => if leT x y then x :: y :: ys else y :: insT x ys
def srtT : List (List Nat) → List (List Nat)
  | [] => []
  | x :: xs => insT x (srtT xs)
theorem leT_iff {x y : List Nat} : leT x y = true ↔ x ≤ y := by
  unfold leT
  rw [ltCps_eq]
  simp
theorem insT_perm (x : List Nat) : ∀ ys : List (List Nat), (insT x ys).Perm (x :: ys)
  | [] => .refl _
  | y :: ys => by
    unfold insT
    split
    · exact .refl _
    · exact ((insT_perm x ys).cons y).trans (.swap x y ys)
theorem srtT_perm : ∀ xs : List (List Nat), (srtT xs).Perm xs
  | [] => .refl _
  | x :: xs => (insT_perm x _).trans ((srtT_perm xs).cons x)
theorem insT_pw (x : List Nat) : ∀ ys : List (List Nat), ys.Pairwise (· ≤ ·) → (insT x ys).Pairwise (· ≤ ·)
  | [], _ => List.pairwise_singleton _ _
  | y :: ys, h => by
    unfold insT
    have h' := List.pairwise_cons.mp h
    split
    · rename_i c
      have c := leT_iff.mp c
      exact List.pairwise_cons.mpr ⟨fun z hz => (List.mem_cons.mp hz).elim (fun e => by rw [e]; exact c) fun m => List.le_trans c (h'.1 z m), h⟩
    · rename_i c
      have c : y ≤ x := by
        rcases List.le_total x y with z | z
        · exact absurd (leT_iff.mpr z) c
        · exact z
      refine List.pairwise_cons.mpr ⟨fun z hz => ?_, insT_pw x ys h'.2⟩
      rcases List.mem_cons.mp ((insT_perm x ys).mem_iff.mp hz) with e | m
      · subst e; exact c
      · exact h'.1 z m
theorem srtT_pw : ∀ xs : List (List Nat), (srtT xs).Pairwise (· ≤ ·)
  | [] => .nil
  | x :: xs => insT_pw x _ (srtT_pw xs)
theorem srtT_uniq {ns ns' : List (List Nat)} (p : ns'.Perm ns) (s : ns'.Pairwise (· ≤ ·)) : ns' = srtT ns :=
  (p.trans (srtT_perm ns).symm).eq_of_pairwise (fun a b _ _ h1 h2 => List.le_antisymm h1 h2) s (srtT_pw ns)
theorem risingS_pw : ∀ (r : List Str) (p : Str), risingS p r = true → (p :: r).Pairwise (fun a b => a.cps.toList ≤ b.cps.toList)
  | [], p, _ => List.pairwise_singleton _ _
  | x :: r, p, h => by
    unfold risingS at h
    rw [Bool.and_eq_true] at h
    have ih := risingS_pw r x h.2
    have hx : p.cps.toList ≤ x.cps.toList := leT_iff.mp h.1
    refine List.pairwise_cons.mpr ⟨fun z hz => ?_, ih⟩
    rcases List.mem_cons.mp hz with e | m
    · rw [e]; exact hx
    · exact List.le_trans hx ((List.pairwise_cons.mp ih).1 z m)
theorem sortedS_uniq {xs : List (List Nat)} {ys : List Str} (p : ys.Perm (xs.map strV)) (s : sortedS ys = true) : ys = (srtT xs).map strV := by
  have hs : ys.Pairwise (fun a b => a.cps.toList ≤ b.cps.toList) := by
    cases ys with
    | nil => exact .nil
    | cons x r => exact risingS_pw r x s
  have hm : ys.map (fun z => z.cps.toList) = srtT xs := srtT_uniq (by
    have := p.map (fun z : Str => z.cps.toList)
    rw [List.map_map] at this
    have e : (xs.map ((fun z : Str => z.cps.toList) ∘ strV)) = xs := by
      rw [show ((fun z : Str => z.cps.toList) ∘ strV) = id from by funext z; simp [strV]]; simp
    rw [e] at this; exact this) (List.pairwise_map.mpr hs)
  rw [← hm, List.map_map]
  rw [show (strV ∘ fun z : Str => z.cps.toList) = id from by funext z; cases z; simp [strV]]
  simp
def dTxts : List D → Option (List (List Nat))
  | [] => some []
  | .str i :: ds => match dTxts ds with
    | some r => some (i :: r)
    | none => none
  | _ => none
theorem dTxts_rep {K : PySem.W.Frag} {mg : Str → Option Value} {P : Hp} : ∀ {ds : List D} {ns : List (List Nat)} {vs : List V}, dTxts ds = some ns → RepL K mg P ds vs → vs = (ns.map strV).map V.str ∧ ds = ns.map D.str ∧ ∀ s ∈ ns, s.length ≤ sizeLine
  | [], _, _, h, .nil => by cases h; exact ⟨rfl, rfl, fun _ h => by cases h⟩
  | d :: ds, _, _, h, .cons r0 r => by
    cases d with
    | str i =>
      unfold dTxts at h
      split at h <;> cases h
      rename_i q hq
      obtain ⟨e1, e2, e3⟩ := dTxts_rep hq r
      cases r0 with
      | str _ hz => exact ⟨by rw [e1]; rfl, by rw [e2]; rfl, fun s hs => (List.mem_cons.mp hs).elim (fun z => z ▸ hz) (e3 s)⟩
    | _ => cases h
theorem txts_rep {K : PySem.W.Frag} {mg : Str → Option Value} {P : Hp} : ∀ {ns : List (List Nat)}, (∀ s ∈ ns, s.length ≤ sizeLine) → RepL K mg P (ns.map D.str) ((ns.map strV).map V.str)
  | [], _ => .nil
  | s :: ns, h => .cons (.str s (h s List.mem_cons_self)) (txts_rep fun z hz => h z (List.mem_cons_of_mem _ hz))
theorem ints_rep {K : PySem.W.Frag} {mg : Str → Option Value} {P : Hp} : ∀ {ns : List Int}, RepL K mg P (ns.map D.int) (ns.map V.int)
  | [] => .nil
  | s :: ns => .cons (.int s) ints_rep
def kTxts : List DK → Option (List (List Nat))
  | [] => some []
  | .s i :: ds => if okS i then match kTxts ds with
    | some r => some (i :: r)
    | none => none else none
  | _ => none
theorem kTxts_rep : ∀ {ks : List DK} {ns : List (List Nat)}, kTxts ks = some ns → ks.map keyK = (ns.map strV).map Sum.inr ∧ ∀ s ∈ ns, s.length ≤ sizeLine
  | [], _, h => by cases h; exact ⟨rfl, fun _ h => by cases h⟩
  | k :: ks, _, h => by
    cases k with
    | s i =>
      unfold kTxts at h
      split at h
      · rename_i hz
        split at h <;> cases h
        rename_i q hq
        obtain ⟨e1, e2⟩ := kTxts_rep hq
        exact ⟨by simp only [List.map_cons, e1]; rfl, fun s hs => (List.mem_cons.mp hs).elim (fun z => z ▸ okS_of hz) (e2 s)⟩
      · cases h
    | _ => cases h
def dSorted : List D → Option D
  | [.lst []] => some (.lst [])
  | [.lst (.int i :: ds)] => (dInts (.int i :: ds)).map fun ns => .lst ((srtI ns).map .int)
  | [.lst (.str s :: ds)] => match dTxts (.str s :: ds) with
    | some ns => if ns.length < 64 then some (.lst ((srtT ns).map .str)) else none
    | none => none
  | [.dct false ks _] => match kTxts ks with
    | some ns => if ns.length < 64 then some (.lst ((srtT ns).map .str)) else none
    | none => none
  | _ => none
def rSortedA (X : Cx) : List V → Hp → VK → Prop := fun xs H Q => (rSortedI X.K xs H Q ∨ rSortedS X.K xs H Q) ∨ ∃ (a : Addr) (kvs : List (Key × V)) (ks : List Str), xs = [.ref a] ∧ Rd H a (.dK kvs) ∧ kvs.map (·.1) = ks.map Sum.inr ∧ ks.length < 64 ∧
    ∀ ys p, ys.Perm ks → sortedS ys = true → H p = none → Q (.ref p) (upd H p (.lst (ys.map V.str)))
theorem cr_sortedA (hc : X.calm = true) : CallR X (.builtin "sorted") (rSortedA X) := (cr_sortedI.or cr_sortedS).or (call_sortedD hc)
theorem cf_sorted : CallF X (rSortedA X) dSorted := fun P H xs as d Q e r hf q => by
  unfold dSorted at hf
  split at hf
  · cases hf
    obtain ⟨v, rfl, r1⟩ := r.one; clear r
    cases r1 with
    | lst h r =>
      cases r
      refine .inl (.inl ⟨_, [], rfl, .of h, fun ns' p hp hs hn => ?_⟩)
      have : ns' = [] := by simpa using hp
      subst this
      exact q _ _ hn (Ex.new hn) (own_lst .nil)
  · rw [Option.map_eq_some_iff] at hf
    obtain ⟨ns, hn, rfl⟩ := hf
    obtain ⟨v, rfl, r1⟩ := r.one; clear r
    cases r1 with
    | lst h r =>
      obtain ⟨e1, _⟩ := dInts_rep hn r
      subst e1
      refine .inl (.inl ⟨_, ns, rfl, .of h, fun ns' p hp hs hn => ?_⟩)
      have := srtI_uniq hp hs
      subst this
      exact q _ _ hn (Ex.new hn) (own_lst ints_rep)
  · split at hf
    · rename_i ns hn
      rw [Option.ite_none_right_eq_some] at hf
      obtain ⟨h64, hf⟩ := hf
      cases hf
      obtain ⟨v, rfl, r1⟩ := r.one; clear r
      cases r1 with
      | lst h r =>
        obtain ⟨e1, _, e3⟩ := dTxts_rep hn r
        subst e1
        refine .inl (.inr ⟨_, ns.map strV, rfl, .of h, by simpa using h64, fun ys p hp hs hn => ?_⟩)
        have := sortedS_uniq hp hs
        subst this
        exact q _ _ hn (Ex.new hn) (own_lst (txts_rep fun s hs => e3 s ((srtT_perm ns).mem_iff.mp hs)))
    · cases hf
  · split at hf
    · rename_i ns hn
      rw [Option.ite_none_right_eq_some] at hf
      obtain ⟨h64, hf⟩ := hf
      cases hf
      obtain ⟨v, rfl, r1⟩ := r.one; clear r
      cases r1 with
      | dctK h k r =>
        obtain ⟨e1, e2⟩ := k.is
        obtain ⟨e3, e4⟩ := kTxts_rep hn
        refine .inr ⟨_, _, ns.map strV, rfl, h, e1.trans e3, by simpa using h64, fun ys p hp hs hn => ?_⟩
        have := sortedS_uniq hp hs
        subst this
        exact q _ _ hn (Ex.new hn) (own_lst (txts_rep fun s hs => e4 s ((srtT_perm ns).mem_iff.mp hs)))
    · cases hf
  · cases hf

/-! ### any, all -/
def dBls : List D → Option (List Bool)
  | [] => some []
  | .bl i :: ds => match dBls ds with
    | some r => some (i :: r)
    | none => none
  | _ => none
theorem dBls_rep {K : PySem.W.Frag} {mg : Str → Option Value} {P : Hp} : ∀ {ds : List D} {ns : List Bool} {vs : List V}, dBls ds = some ns → RepL K mg P ds vs → vs = ns.map V.bl
  | [], _, _, h, .nil => by cases h; rfl
  | d :: ds, _, _, h, .cons r0 r => by
    cases d with
    | bl i =>
      unfold dBls at h
      split at h <;> cases h
      rename_i q hq
      rw [dBls_rep hq r]
      cases r0
      rfl
    | _ => cases h
def dAny : List D → Option D
  | [.lst ds] => (dBls ds).map fun bs => .bl (bs.any id)
  | _ => none
def dAll : List D → Option D
  | [.lst ds] => (dBls ds).map fun bs => .bl (bs.all id)
  | _ => none
theorem cs_any : CallS X (rAny X.K) dAny := fun P H xs as d Q e r hf q => by
  unfold dAny at hf
  split at hf
  · obtain ⟨v, rfl, r1⟩ := r.one; clear r
    rw [Option.map_eq_some_iff] at hf
    obtain ⟨ns, hn, rfl⟩ := hf
    cases r1 with
    | lst h r =>
      have e1 := dBls_rep hn r
      subst e1
      exact ⟨_, _, rfl, .of h, q _ _ _ (.refl e) (.bl _)⟩
  · cases hf
theorem cs_all : CallS X (rAll X.K) dAll := fun P H xs as d Q e r hf q => by
  unfold dAll at hf
  split at hf
  · obtain ⟨v, rfl, r1⟩ := r.one; clear r
    rw [Option.map_eq_some_iff] at hf
    obtain ⟨ns, hn, rfl⟩ := hf
    cases r1 with
    | lst h r =>
      have e1 := dBls_rep hn r
      subst e1
      exact ⟨_, _, rfl, .of h, q _ _ _ (.refl e) (.bl _)⟩
  · cases hf
end
end DL
end
section
set_option Elab.async false
set_option linter.all false
set_option maxRecDepth 100000
namespace DL
open PySem L2 Evl PySem.Spec PyProof.Rows

section
variable {X : Cx} {W : WX} {En : Ent} {e a b c o : Expr} {es : List Expr} {st : Stmt} {pos p p1 p2 p3 apos cpos : Pos} {f fa fb fc fi fv fk fo : Ga → R (Res × Ga)} {g : Ga → R (List Res × Ga)} {T id : String} {name x : Str} {i : Nat}

/-! ### isinstance -/
inductive BT where
  | int | bool | str | tuple | list | dict
def BT.n : BT → String
  | .int => "int" | .bool => "bool" | .str => "str" | .tuple => "tuple" | .list => "list" | .dict => "dict"
def dIsa (d : D) (t : BT) : Option Bool := match d with
  | .non => some false
  | .bl _ => some (match t with | .int => true | .bool => true | _ => false)
  | .int _ => some (match t with | .int => true | _ => false)
  | .str _ => some (match t with | .str => true | _ => false)
  | .lst _ => some (match t with | .list => true | _ => false)
  | .tup _ => some (match t with | .tuple => true | _ => false)
  | .dct _ _ _ => some (match t with | .dict => true | _ => false)
  | _ => none
theorem kit_int {K : PySem.W.Frag} {t : BT} : PySem.W.kitOne K (.type "int") (.type t.n) = some (match t with | .int => true | _ => false) := by cases t <;> kernel_rfl
theorem kit_bool {K : PySem.W.Frag} {t : BT} : PySem.W.kitOne K (.type "bool") (.type t.n) = some (match t with | .int => true | .bool => true | _ => false) := by cases t <;> kernel_rfl
theorem kit_str {K : PySem.W.Frag} {t : BT} : PySem.W.kitOne K (.type "str") (.type t.n) = some (match t with | .str => true | _ => false) := by cases t <;> kernel_rfl
theorem kit_list {K : PySem.W.Frag} {t : BT} : PySem.W.kitOne K (.type "list") (.type t.n) = some (match t with | .list => true | _ => false) := by cases t <;> kernel_rfl
theorem kit_tuple {K : PySem.W.Frag} {t : BT} : PySem.W.kitOne K (.type "tuple") (.type t.n) = some (match t with | .tuple => true | _ => false) := by cases t <;> kernel_rfl
theorem kit_dict {K : PySem.W.Frag} {t : BT} : PySem.W.kitOne K (.type "dict") (.type t.n) = some (match t with | .dict => true | _ => false) := by cases t <;> kernel_rfl
theorem kit_non {K : PySem.W.Frag} {t : BT} : PySem.W.kitOne K (.type "NoneType") (.type t.n) = some false := by cases t <;> kernel_rfl
/-- a dict with tuples as keys, as it stands for good -/
inductive TyY (K : PySem.W.Frag) (H : Hp) : V → Value → Prop where
  | x {v : V} {t : Value} (h : TyX K H v t) : TyY K H v t
  | fT {a : Addr} {o : Obj} {kvs : List (List Key × V)} (e : H a = some (.frz o (.dT kvs))) : TyY K H (.ref a) (.type "dict")
def rIsiY (K : PySem.W.Frag) : List V → Hp → VK → Prop := fun xs H Q => ∃ (x c : V) (t u : Value) (b : Bool), xs = [x, c] ∧ ClsV c u ∧ TyY K H x t ∧ PySem.W.kitOne K t u = some b ∧ Q (.bl b) H
theorem call_isiY {X : Cx} : CallR X (.builtin "isinstance") (rIsiY X.K) := by
  intro pins s σ H xs us Q I r h
  obtain ⟨x, c, t, u, b, rfl, k, ty, e, q⟩ := h
  cases ty with
  | x ty => exact call_isi pins s σ H _ us Q I r ⟨x, c, t, u, b, rfl, k, ty, e, q⟩
  | @fT a o kvs ea =>
    obtain ⟨v1, v2, rfl, g1, g2⟩ := vals2 r
    have e2 := k.eq g2
    subst e2
    cases (show v1 = Value.ref a from g1)
    obtain ⟨_, _, _, ys, _, o, es, ep, h1, h2, _⟩ := (show ObjOk X.prog X.w H s.heap a (.frz o (.dT kvs)) from I.hok a _ ea)
    exact PySem.W.kia_one PySem.W.kitx_dict I.kIn ⟨o, h1, h2.1⟩ e (fun z => nomatch z) fun tk => ⟨.bl b, H, I.tok tk, rfl, q⟩
theorem isa_go {K : PySem.W.Frag} {mg : Str → Option Value} {P H : Hp} {d : D} {v : V} {t : BT} {r : Bool} (e : Ex P H) (h : RepW K mg P H d v) (hd : dIsa d t = some r) : ∃ u, TyY K H v u ∧ PySem.W.kitOne K u (.type t.n) = some r := by
  cases h with
  | non => cases hd; exact ⟨_, .x <| .base .non, kit_non⟩
  | bl b => cases hd; exact ⟨_, .x <| .base (.bl b), kit_bool⟩
  | int i => cases hd; exact ⟨_, .x <| .base (.int i), kit_int⟩
  | str s hs => cases hd; exact ⟨_, .x <| .base (.str _), kit_str⟩
  | lst h r => cases hd; exact ⟨_, .x <| .base (.lst h), kit_list⟩
  | tup h r => cases hd; exact ⟨_, .x <| .base (.tup (e _ _ h)), kit_tuple⟩
  | dctK h k r =>
    cases hd
    rcases h with h | ⟨o, h⟩
    · exact ⟨_, .x <| .base (.dK h), kit_dict⟩
    · exact ⟨_, .x (.fDict h), kit_dict⟩
  | dctT h k r =>
    cases hd
    rcases h with h | ⟨o, h⟩
    · exact ⟨_, .x (.base (.dT h)), kit_dict⟩
    · exact ⟨_, .fT h, kit_dict⟩
  | _ => cases hd
def eIsa (t : BT) (f : Ga → R (Res × Ga)) : Ga → R (Res × Ga) := eOp1 (fun d => (dIsa d t).map .bl) f
theorem ev_isa {t : BT} (hg : Gl X "isinstance") (hm : X.mg "isinstance" = none) (hg2 : Gl X (Str.ofString t.n)) (hm2 : X.mg (Str.ofString t.n) = none) (he : Ev X W En e f)
    (hs : starEach [e, .Name (Str.ofString t.n) p2] X.env = (false, eval e X.env) :: starEach [.Name (Str.ofString t.n) p2] X.env := by rfl) (hs2 : starEach [.Name (Str.ofString t.n) p2] X.env = (false, eval (.Name (Str.ofString t.n) p2) X.env) :: starEach [] X.env := by rfl)
    (hpl : (backTo pos (starEach [.Name (Str.ofString t.n) p2] X.env)).any (·.1) = false := by rfl) :
    Ev X W En (.Call (.Name "isinstance" p) [e, .Name (Str.ofString t.n) p2] [] pos) (eIsa t f) := by
  obtain ⟨te, pe, he⟩ := he
  have pt : PE X (.Name (Str.ofString t.n) p2) (tC (.ty t.n)) := pe_bltn (v := .ty t.n) (u := .type t.n) hg2 hm2 (by cases t <;> kernel_rfl) rfl (by cases t <;> decide) (by cases t <;> decide)
  refine ⟨_, pe_callB call_isiY hg hm (by kernel_rfl) (pa_cons pe (pa_cons pt pa_nil hs2) hs) (by decide) (by decide) hs hpl, fun σ H P γ Q S q => ?_⟩
  refine one_go (rep := repE X) (k := fun a γ2 => ofO ((dIsa a t).map .bl) >>= fun d => .ok (.val d, γ2)) he hrepE S q fun P2 H2 γ2 a x S2 r1 q2 => ?_
  obtain ⟨d, e1, q3⟩ := ofO_ok (C := PostG X W En (repE X) σ P2 H2 γ2 Q) (fun z => z) q2
  rw [Option.map_eq_some_iff] at e1
  obtain ⟨r, e1, rfl⟩ := e1
  obtain ⟨u, h1, h2⟩ := isa_go S2.sub r1 e1
  exact ⟨x, .ty t.n, u, .type t.n, r, rfl, .ty _, h1, h2, q3.val S2 (.refl S2.sub) (.bl r)⟩

/-! ### a list's own methods -/
def mAppend : D → List D → Option (D × D)
  | .lst ds, [d] => if ds.length < sizeLine then some (.non, .lst (ds ++ [d])) else none
  | _, _ => none
def mExtend : D → List D → Option (D × D)
  | .lst ds, [.lst es] => if ds.length + es.length ≤ sizeLine then some (.non, .lst (ds ++ es)) else none
  | _, _ => none
def mPop : D → List D → Option (D × D)
  | .lst ds, [] => match ds[ds.length - 1]? with
    | some d => some (d, .lst ds.dropLast)
    | none => none
  | _, _ => none
theorem own_lst_inv {K : PySem.W.Frag} {mg : Str → Option Value} {P H : Hp} {ds : List D} {a : Addr} (h : Own K mg P H (.lst ds) a) : ∃ vs, H a = some (.lst vs) ∧ RepL K mg P ds vs := by
  rcases h with ⟨_, vs, e, h, r⟩ | ⟨_, _, _, e, _⟩ | ⟨_, _, _, e, _⟩
  · cases e; exact ⟨vs, h, r⟩
  · cases e
  · cases e
theorem own_dK_inv {K : PySem.W.Frag} {mg : Str → Option Value} {P H : Hp} {ks : List DK} {ds : List D} {a : Addr} (h : Own K mg P H (.dct false ks ds) a) : ∃ kvs : List (Key × V), H a = some (.dK kvs) ∧ KsK ks (kvs.map (·.1)) ∧ RepL K mg P ds (kvs.map (·.2)) := by
  rcases h with ⟨_, _, e, _⟩ | ⟨_, _, kvs, e, h, k, r⟩ | ⟨_, _, _, e, _⟩
  · cases e
  · cases e; exact ⟨kvs, h, k, r⟩
  · cases e
theorem mv_append : MutV X rAppend mAppend := fun P H l xs a as ret new Q e n ow r hf q => by
  unfold mAppend at hf
  split at hf
  · simp only [Option.ite_none_right_eq_some, Option.some.injEq, Prod.mk.injEq] at hf
    obtain ⟨hl, rfl, rfl⟩ := hf
    obtain ⟨vs, h, r0⟩ := own_lst_inv ow
    cases r with
    | cons r1 r2 =>
      cases r2
      exact ⟨l, vs, _, rfl, rfl, h, by rw [← r0.length]; exact hl, q _ _ (.inl ⟨_, _, rfl, upd_same, r0.append (.cons r1 .nil)⟩) .non⟩
  · cases hf
theorem mv_extend : MutV X rExtend mExtend := fun P H l xs a as ret new Q e n ow r hf q => by
  unfold mExtend at hf
  split at hf
  · simp only [Option.ite_none_right_eq_some, Option.some.injEq, Prod.mk.injEq] at hf
    obtain ⟨hl, rfl, rfl⟩ := hf
    obtain ⟨vs, h, r0⟩ := own_lst_inv ow
    cases r with
    | cons r1 r2 =>
      cases r2
      cases r1 with
      | lst hb rb => exact ⟨l, _, vs, _, rfl, rfl, h, e _ _ hb, by rw [← r0.length, ← rb.length]; exact hl, q _ _ (.inl ⟨_, _, rfl, upd_same, r0.append rb⟩) .non⟩
  · cases hf
theorem mw_pop : MutW X rPop mPop := fun P H l xs a as ret new Q e n ow r hf q => by
  unfold mPop at hf
  split at hf
  · rename_i ds
    split at hf
    · rename_i d hd
      cases hf
      obtain ⟨vs, h, r0⟩ := own_lst_inv ow
      cases r
      obtain ⟨v, g1, g2⟩ := r0.get hd
      rw [r0.length] at g1
      exact ⟨l, vs, v, rfl, rfl, h, g1, q _ _ (.inl ⟨_, _, rfl, upd_same, by rw [List.dropLast_eq_take, List.dropLast_eq_take, r0.length]; exact r0.take _⟩) g2⟩
    · cases hf
  · cases hf

/-! ### a dict's own methods -/
def dMerge : List DK → List D → List DK → List D → List DK × List D
  | k :: ks, v :: vs, as, bs => dMerge ks vs (dPutK as k) (dPutV as bs k v)
  | _, _, as, bs => (as, bs)
def rUpd : V → List V → Hp → VK → Prop := fun x xs H Q => ∃ a b ks ls, x = .ref a ∧ xs = [.ref b] ∧ a ≠ b ∧ H a = some (.dK ks) ∧ Rd H b (.dK ls) ∧ ks.length + ls.length ≤ sizeLine ∧ Q .non (upd H a (.dK (mergeK ks ls)))
theorem mt_update : MtR X "dict.update" rUpd := by
  intro pins s σ H x xs v us Q I rx rs h
  obtain ⟨a, b, ks, ls, rfl, rfl, hab, ha, hb, hz, q⟩ := h
  obtain ⟨u, rfl, ru⟩ := vals1 rs
  cases rx
  cases ru
  obtain ⟨z1, l1, va, ra, da⟩ := dk_of I.hok ha
  obtain ⟨z2, l2, vb, rb, db⟩ := dk_rd I.hok hb
  have hl : va.length + vb.length ≤ sizeLine := by rw [← ra.length, ← rb.length]; exact hz
  refine call_meetsIn PySem.F.slot_dict_update da.typeIs PySem.F.entry_dict_update (PySem.F.args_dict_update_2 _ _) (meets_dict_update (mixKind X.prog X.w) a b hab l2) ⟨va, vb, da, db, hl, fun h' d' _ hs => ?_⟩
  have hm : (mergeK ks ls).length ≤ sizeLine := Nat.le_trans (length_mergeK ls ks) hz
  have he : ∃ q, h'.get? a = some q := let ⟨q, _, _, hq, _⟩ := d'; ⟨q, hq⟩
  exact ⟨.non, _, d_write (t' := s.toks) I (by rw [ha]; exact True.intro) hs he (dk_new hm l1 (rb.merge ra) d'), rfl, q⟩
theorem merge_rep {K : PySem.W.Frag} {mg : Str → Option Value} {P : Hp} : ∀ {ls : List (Key × V)} {ks : List DK} {ds : List D} {as : List DK} {bs : List D} {kvs : List (Key × V)}, ls.map (·.1) = ks.map keyK → (∀ k ∈ ks, k.isT = false) → RepL K mg P ds (ls.map (·.2)) →
    kvs.map (·.1) = as.map keyK → (∀ k ∈ as, k.isT = false) → RepL K mg P bs (kvs.map (·.2)) →
    (mergeK kvs ls).map (·.1) = (dMerge ks ds as bs).1.map keyK ∧ (∀ k ∈ (dMerge ks ds as bs).1, k.isT = false) ∧ RepL K mg P (dMerge ks ds as bs).2 ((mergeK kvs ls).map (·.2))
  | [], [], ds, as, bs, kvs, h1, h2, h3, h4, h5, h6 => ⟨h4, h5, h6⟩
  | [], _ :: _, ds, as, bs, kvs, h1, h2, h3, h4, h5, h6 => by simp at h1
  | _ :: _, [], ds, as, bs, kvs, h1, h2, h3, h4, h5, h6 => by simp at h1
  | p :: ls, k :: ks, [], as, bs, kvs, h1, h2, h3, h4, h5, h6 => by simp only [List.map_cons] at h3; cases h3
  | p :: ls, k :: ks, d :: ds, as, bs, kvs, h1, h2, h3, h4, h5, h6 => by
    simp only [List.map_cons, List.cons.injEq] at h1 h3
    cases h3 with
    | cons r0 r =>
      have hk := h2 k List.mem_cons_self
      obtain ⟨g1, g2⟩ := put_gen keyK k r0 h4 h6 fun z hz q => keyK_inj (h5 z hz) hk q
      have e : mergeK kvs (p :: ls) = mergeK (putK kvs (keyK k) p.2) ls := by rw [← h1.1]; rfl
      rw [e]
      exact merge_rep (ls := ls) (ks := ks) (ds := ds) (as := dPutK as k) (bs := dPutV as bs k d) h1.2 (fun z hz => h2 z (List.mem_cons_of_mem _ hz)) r g1 (fun z hz => by
        unfold dPutK at hz
        split at hz
        · exact h5 z hz
        · rcases List.mem_append.mp hz with h | h
          · exact h5 z h
          · have : z = k := by simpa using h
            rw [this]; exact hk) g2
def mUpdate : D → List D → Option (D × D)
  | .dct false ks vs, [.dct false ls us] => if ks.length + ls.length ≤ sizeLine then some (.non, .dct false (dMerge ls us ks vs).1 (dMerge ls us ks vs).2) else none
  | _, _ => none
theorem mv_update : MutV X rUpd mUpdate := fun P H l xs a as ret new Q e n ow r hf q => by
  unfold mUpdate at hf
  split at hf
  · simp only [Option.ite_none_right_eq_some, Option.some.injEq, Prod.mk.injEq] at hf
    obtain ⟨hl, rfl, rfl⟩ := hf
    obtain ⟨kvs, h, k, r0⟩ := own_dK_inv ow
    cases r with
    | cons r1 r2 =>
      cases r2
      cases r1 with
      | @dctK b o ls us lvs hb kb rb =>
        obtain ⟨e1, e2⟩ := k.is
        obtain ⟨e3, e4⟩ := kb.is
        obtain ⟨g1, g2, g3⟩ := merge_rep e3 e4 rb e1 e2 r0
        have n1 := congrArg List.length e1
        have n2 := congrArg List.length e3
        rw [List.length_map, List.length_map] at n1 n2
        exact ⟨l, b, kvs, lvs, rfl, rfl, (fun z => by rw [z, hb] at n; cases n), h, .inr ⟨_, e _ _ hb⟩, by omega, q _ _ (.inr (.inl ⟨_, _, _, rfl, upd_same, by rw [g1]; exact KsK.of g2, g3⟩)) .non⟩
  · cases hf
def D.isDK : D → Bool
  | .dct _ _ _ => true
  | _ => false
def eMutD (i : Nat) (F : D → List D → Option (D × D)) (g : Ga → R (List Res × Ga)) : Ga → R (Res × Ga) := fun γ => muAt γ i >>= fun a => if a.isDK = true then
  g γ >>= fun q => muAt q.2 i >>= fun a => vals q.1 >>= fun as => ofO (F a as) >>= fun p => .ok (.val p.1, q.2.set i (.mu p.2)) else .no
theorem ev_mutD {r : V → List V → Hp → VK → Prop} {F : D → List D → Option (D × D)} (slot : Slot "dict" name id) (hty : typeOf (.builtin id) = pure (.type "method_descriptor")) (hm : MtR X id r) (hs : MutV X r F) (ho : PE X (.Name x p1) (tVar i)) (ha : EvA X W En (e :: es) g)
    (hbase : attributeBase (.Name x p1) name X.env (eval (.Name x p1) X.env) = eval (.Name x p1) X.env := by rfl)
    (hfew : ((backTo cpos (starEach (e :: es) X.env)).all (fun x => !x.1) && (backToKw cpos (keywordEach [] X.env)).all (fun x => x.1.isSome)
      && decide ((e :: es).length + ([] : List Keyword).length + (if ([] : List Keyword).isEmpty then 0 else 1) < 30)) = true := by rfl)
    (hline : (apos.endLine == cpos.line) = true := by rfl) (hs' : starEach (e :: es) X.env = (false, eval e X.env) :: starEach es X.env := by rfl) (hplain : (backTo cpos (starEach es X.env)).any (·.1) = false := by rfl) :
    Ev X W En (.Call (.Attribute (.Name x p1) name apos) (e :: es) [] cpos) (eMutD i F g) := by
  obtain ⟨ta, pa', ha⟩ := ha
  refine ⟨_, pe_bm PySem.F.plainAttrs_dict slot hty hm ho pa' hbase hfew hline hs' hplain, fun σ H P γ Q S q => ?_⟩
  unfold eMutD at q
  rcases muAt_cases γ i with ⟨d, e1, e2⟩ | e1
  · rw [e1, R.ok_bind] at q
    split at q
    · rename_i ht
      obtain ⟨l, h1, h2, h3, h4⟩ := S.mu i d e2
      refine ⟨_, h1, ?_, ?_⟩
      · rcases h3 with ⟨_, _, z, _⟩ | ⟨_, _, _, z, h, _⟩ | ⟨_, _, _, z, h, _⟩
        · subst z; cases ht
        · exact .inr (.inr (.inl ⟨rfl, .inl ⟨_, h⟩⟩))
        · exact .inr (.inr (.inl ⟨rfl, .inr ⟨_, h⟩⟩))
      · exact args_go (rep := repE X) (k := fun rs γ => muAt γ i >>= fun a => vals rs >>= fun as => ofO (F a as) >>= fun p => .ok (.val p.1, γ.set i (.mu p.2))) ha hrepE S q fun P2 H2 γ2 rs vs S2 T2 r q2 => by
          rcases muAt_cases γ2 i with ⟨d2, e1, e2⟩ | e1
          · rw [e1, R.ok_bind] at q2
            obtain ⟨l', g1, g2, g3, g4⟩ := S2.mu i d2 e2
            rw [h1] at g1; cases g1
            rcases vals_cases rs with ⟨ds, e⟩ | e
            · rw [e, R.ok_bind] at q2
              rcases ofO_cases (F d2 ds) with ⟨p, e3, e'⟩ | e3
              · rw [e', R.ok_bind] at q2
                exact hs P2 H2 l vs d2 ds p.1 p.2 Q S2.sub g2 g3 (vals_rep r e) e3 fun v o ow rv => by
                  obtain ⟨S', T'⟩ := S2.mut e2 h1 ow
                  exact q2 v _ P2 S' T' rv
              · rw [e3] at q2; exact q2.elim
            · rw [e] at q2; exact q2.elim
          · rw [e1] at q2; exact q2.elim
    · exact q.elim
  · rw [e1] at q; exact q.elim
end
end DL
end
section
set_option Elab.async false
set_option linter.all false
set_option maxRecDepth 100000
namespace DL
open PySem L2 Evl PySem.Spec PyProof.Rows

section
variable {X : Cx} {W : WX} {En : Ent} {e a b c o : Expr} {es : List Expr} {st : Stmt} {pos p p1 p2 p3 apos cpos : Pos} {f fa fb fc fi fv fk fo : Ga → R (Res × Ga)} {g : Ga → R (List Res × Ga)} {op op' : CmpOp} {ops : List CmpOp}
/-- what stands behind the first value of a chain of comparisons -/
structure PCh (X : Cx) (pos : Pos) (ops : List CmpOp) (es : List Expr) (t : V → TE) : Prop where
  e : ∀ (pins : List (Addr × Obj)) (s : Shared) (σ : L2.St) (H : Hp) (x : V) (v : Value) (Q : VK), Inv X pins σ H s → RelV x v → t x σ H Q → wpAny (model X.prog X.w) X.A (compareChain pos v ops (evalEach es X.env)) (EP X pins σ Q) X.xe s
  t : ∀ (pins : List (Addr × Obj)) (s : Shared) (σ : L2.St) (H : Hp) (x : V) (v : Value) (Q : Bool → Hp → Prop), Inv X pins σ H s → RelV x v → t x σ H (fun z H' => ∃ k, z = .bl k ∧ Q k H') → wpAny (model X.prog X.w) X.A (testChain pos v ops (evalEach es X.env)) (TP X pins σ Q) X.xe s
def tChL (r : R2) (tb : TE) : V → TE := fun x σ H Q => tb σ H fun y H2 => r x y H2 Q
def tChN (r : R2) (tb : TE) (t : V → TE) : V → TE := fun x σ H Q => tb σ H fun y H2 => r x y H2 fun z H3 => ∃ k, z = .bl k ∧ (if k = true then t y σ H3 Q else Q (.bl false) H3)
theorem pch_last {r : R2} {tb : TE} (ho : OpR X (compareOp op) r) (hb : PE X b tb) : PCh X pos [op] [b] (tChL r tb) := by
  constructor
  · intro pins s σ H x v Q I rx h
    exact chain_last (thn (hb.run pins s σ H _ I h) fun w' s4 ⟨z', H4, I4, r4, q4⟩ => ho pins s4 σ H4 x z' v w' Q I4 rx r4 q4)
  · intro pins s σ H x v Q I rx h
    refine test_last (thn (hb.run pins s σ H _ I h) fun w' s4 ⟨z', H4, I4, r4, q4⟩ => thn (ho pins s4 σ H4 x z' v w' _ I4 rx r4 q4) fun d' s5 ⟨z2, H5, I5, r5, k2, e2, q5⟩ => ?_)
    subst e2
    cases r5
    exact wpAny_truthy_bool ⟨H5, I5, q5⟩
theorem pch_link {r : R2} {tb : TE} {t : V → TE} {b2 : Expr} {es : List Expr} (ho : OpR X (compareOp op) r) (hb : PE X b tb) (h2 : PCh X pos (op' :: ops) (b2 :: es) t) : PCh X pos (op :: op' :: ops) (b :: b2 :: es) (tChN r tb t) := by
  constructor
  · intro pins s σ H x v Q I rx h
    refine chain_link (thn (hb.run pins s σ H _ I h) fun u s2 ⟨y, H2, I2, r2, q2⟩ => thn (ho pins s2 σ H2 x y v u _ I2 rx r2 q2) fun d s3 ⟨z, H3, I3, r3, k, e, q3⟩ => ?_)
    subst e
    cases r3
    refine wpAny_truthy_bool ?_
    cases k with
    | false => exact ite_ff ⟨.bl false, H3, I3, rfl, q3⟩
    | true => exact ite_tt (h2.e pins s3 σ H3 y u Q I3 r2 q3)
  · intro pins s σ H x v Q I rx h
    refine test_link (thn (hb.run pins s σ H _ I h) fun u s2 ⟨y, H2, I2, r2, q2⟩ => thn (ho pins s2 σ H2 x y v u _ I2 rx r2 q2) fun d s3 ⟨z, H3, I3, r3, k, e, q3⟩ => ?_)
    subst e
    cases r3
    refine wpAny_truthy_bool ?_
    cases k with
    | false =>
      obtain ⟨k', e', q'⟩ := q3
      cases e'
      exact ite_ff ⟨H3, I3, q'⟩
    | true => exact ite_tt (h2.t pins s3 σ H3 y u Q I3 r2 q3)
def EvCh (X : Cx) (W : WX) (En : Ent) (pos : Pos) (ops : List CmpOp) (es : List Expr) (f : D → Ga → R (Res × Ga)) : Prop :=
  ∃ t, PCh X pos ops es t ∧ ∀ x d σ H P γ Q, Sat X.K X.mg En P σ H γ → Rep X.K X.mg P d x → PostG X W En (repE X) σ P H γ Q (f d γ) → t x σ H Q
def chL (F : D → D → Option D) (fb : Ga → R (Res × Ga)) : D → Ga → R (Res × Ga) := fun a γ => fb γ >>= fun q => deref q.2 q.1 >>= fun b => ofO (F a b) >>= fun d => .ok (.val d, q.2)
def chN (F : D → D → Option D) (fb : Ga → R (Res × Ga)) (r : D → Ga → R (Res × Ga)) : D → Ga → R (Res × Ga) := fun a γ => fb γ >>= fun q => valOf q.1 >>= fun b => ofO (F a b) >>= fun d => match d with
  | .bl true => r b q.2
  | .bl false => .ok (.val (.bl false), q.2)
  | _ => .no
theorem ech_last {r : R2} {F : D → D → Option D} (ho : OpR X (compareOp op) r) (hs : OpS X r F) (hb : Ev X W En b fb) : EvCh X W En pos [op] [b] (chL F fb) := by
  obtain ⟨tb, pb, hb⟩ := hb
  refine ⟨_, pch_last ho pb, fun x d σ H P γ Q S rx q => ?_⟩
  refine hb σ H P γ _ S ?_
  unfold chL at q
  cases eb : fb γ with
  | no => rw [eb] at q; exact q
  | exc c => rw [eb] at q; exact q
  | ok p =>
    obtain ⟨rb, γ2⟩ := p
    rw [eb, R.ok_bind] at q
    intro y H2 P2 S2 T2 r2
    have q2 := PostG.later T2 (fun P' H' σ a b => hrepE _ _ P' H' σ a b T2.dom) q
    rcases deref_cases γ2 rb with ⟨db, e2⟩ | e2
    · simp only [e2, R.ok_bind] at q2
      obtain ⟨z, e3, q3⟩ := ofO_ok (C := PostG X W En (repE X) σ P2 H2 γ2 Q) (fun z => z) q2
      exact hs P2 H2 x y d db z Q S2.sub (Rep.w S2.sub (rx.mono T2.ph)) (S2.w r2 e2) e3 fun v H' P' g r => q3.val S2 g r
    · simp only [e2] at q2; exact q2.elim
theorem ech_link {r : R2} {F : D → D → Option D} {rest : D → Ga → R (Res × Ga)} {b2 : Expr} {es : List Expr} (ho : OpR X (compareOp op) r) (hs : OpS X r F) (hb : Ev X W En b fb) (h2 : EvCh X W En pos (op' :: ops) (b2 :: es) rest) : EvCh X W En pos (op :: op' :: ops) (b :: b2 :: es) (chN F fb rest) := by
  obtain ⟨tb, pb, hb⟩ := hb
  obtain ⟨t2, p2, h2⟩ := h2
  refine ⟨_, pch_link ho pb p2, fun x d σ H P γ Q S rx q => ?_⟩
  refine hb σ H P γ _ S ?_
  unfold chN at q
  cases eb : fb γ with
  | no => rw [eb] at q; exact q
  | exc c => rw [eb] at q; exact q
  | ok p =>
    obtain ⟨rb, γ2⟩ := p
    rw [eb, R.ok_bind] at q
    intro y H2 P2 S2 T2 r2
    have q2 := PostG.later T2 (fun P' H' σ a b => hrepE _ _ P' H' σ a b T2.dom) q
    obtain ⟨db, e2, q3⟩ := valOf_bind (C := PostG X W En (repE X) σ P2 H2 γ2 Q) (fun z => z) q2
    simp only at e2
    subst e2
    have r2 : Rep X.K X.mg P2 db y := r2
    obtain ⟨z, e3, q4⟩ := ofO_ok (C := PostG X W En (repE X) σ P2 H2 γ2 Q) (fun z => z) q3
    refine hs P2 H2 x y d db z _ S2.sub (Rep.w S2.sub (rx.mono T2.ph)) (Rep.w S2.sub r2) e3 fun v H' P' g r => ?_
    cases z with
    | bl k =>
      cases r
      refine ⟨k, rfl, ?_⟩
      have g2 := q4.later (Gr.stp (T := En.T) (σ := σ) (γ := γ2) g) (fun P'' H'' σ a b => hrepE _ _ P'' H'' σ a b fun x h => ex_ne g.h h)
      cases k with
      | true => exact h2 y db σ H' P' γ2 Q (S2.gr g) (r2.mono g.p) g2
      | false => exact g2 _ H' P' (S2.gr g) .refl (.bl false)
    | _ => exact q4.elim
def eChain (fa : Ga → R (Res × Ga)) (r : D → Ga → R (Res × Ga)) : Ga → R (Res × Ga) := fun γ => fa γ >>= fun p => valOf p.1 >>= fun a => r a p.2
def tChA (ta : TE) (t : V → TE) : TE := fun σ H Q => ta σ H fun x H1 => t x σ H1 Q
theorem evb_chain {rest : D → Ga → R (Res × Ga)} {b b2 : Expr} {es : List Expr} (ha : Ev X W En a fa) (h2 : EvCh X W En pos (op :: op' :: ops) (b :: b2 :: es) rest) (hm : lastMarks (op :: op' :: ops) (b :: b2 :: es) = false) : EvB X W En (.Compare a (op :: op' :: ops) (b :: b2 :: es) pos) (eChain fa rest) := by
  obtain ⟨ta, pa, ha⟩ := ha
  obtain ⟨t2, p2, h2⟩ := h2
  refine ⟨tChA ta t2, ⟨fun pins s σ H Q I h => ?_⟩, ⟨fun pins s σ H Q I h => ?_⟩, fun σ H P γ Q S q => ?_⟩
  · exact Compare_chain (thn (pa.run pins s σ H _ I h) fun v s1 ⟨x, H1, I1, r1, q1⟩ => p2.e pins s1 σ H1 x v Q I1 r1 q1) hm
  · exact isTrue_chain (thn (pa.run pins s σ H _ I h) fun v s1 ⟨x, H1, I1, r1, q1⟩ => p2.t pins s1 σ H1 x v Q I1 r1 q1) hm
  · refine ha σ H P γ _ S ?_
    unfold eChain at q
    cases eb : fa γ with
    | no => rw [eb] at q; exact q
    | exc c => rw [eb] at q; exact q
    | ok p =>
      obtain ⟨rb, γ2⟩ := p
      rw [eb, R.ok_bind] at q
      intro y H2 P2 S2 T2 r2
      have q2 := PostG.later T2 (fun P' H' σ a b => hrepE _ _ P' H' σ a b T2.dom) q
      obtain ⟨db, e2, q3⟩ := valOf_bind (C := PostG X W En (repE X) σ P2 H2 γ2 Q) (fun z => z) q2
      simp only at e2
      subst e2
      exact h2 y db σ H2 P2 γ2 Q S2 r2 q3

/-! ### nothing promised -/
theorem ev_no : Ev X W En e (fun _ => .no) := ⟨fun _ _ _ => False, ⟨fun _ _ _ _ _ _ h => h.elim⟩, fun _ _ _ _ _ _ q => q⟩
theorem es_no : EvS X W En st (fun _ => .no) := ⟨fun _ _ _ => False, ⟨fun _ _ _ _ _ _ h => h.elim⟩, fun _ _ _ _ _ _ q => q⟩
end
end DL
end
section
set_option Elab.async false
set_option linter.all false
set_option maxRecDepth 100000
namespace DL
open PySem L2 Evl PySem.Spec PyProof.Rows

/-! ### what a def promises -/
/-- what is wanted behind a def -/
def PostD (K : PySem.W.Frag) (mg : Str → Option Value) (En : Ent) (n : Nat) (P : Hp) (Q : VK) (E : XK) : R (D × List Sl) → Prop
  | .ok (d, outs) => ∀ v σ' H' P' γ', Sat K mg En P' σ' H' γ' → Ex P P' → γ'.take n = outs → Rep K mg P' d v → Q v H'
  | .exc c => ∀ H' cls, (∀ a o, En.H0 a = some o → ¬ En.M a → H' a = some o) → LamX.Tabs En.T H' → mg c = some cls → E cls none H'
  | .no => False
def spD (K : PySem.W.Frag) (mg : Str → Option Value) (T : List (Addr × Str)) (ms : List Nat) (n : Nat) (m : List Sl → R (D × List Sl)) : Sp := fun vs H Q E => vs.length = n ∧
  ∃ P γ, Sat K mg ⟨H, P, vs.map some, ms, T⟩ P (vs.map some) H γ ∧ PostD K mg ⟨H, P, vs.map some, ms, T⟩ n P Q E (m γ)
/-- a def's body as a function: n parameters, k other names -/
def mDef (n k : Nat) (h : Ga → R (Fl × Ga)) : List Sl → R (D × List Sl) := fun as => h (as ++ List.replicate k .un) >>= fun p => match p.1 with
  | .next => .ok (.non, p.2.take n)
  | .ret d => .ok (d, p.2.take n)
  | _ => .no
theorem getElem?_app_rep {α : Type} {l : List α} {k i : Nat} {x y : α} (h : (l ++ List.replicate k x)[i]? = some y) : l[i]? = some y ∨ (l.length ≤ i ∧ y = x) := by
  by_cases hi : i < l.length
  · rw [List.getElem?_append_left hi] at h; exact .inl h
  · rw [List.getElem?_append_right (by omega), List.getElem?_replicate] at h
    split at h
    · cases h; exact .inr ⟨by omega, rfl⟩
    · cases h
theorem Sat.start {K : PySem.W.Frag} {mg : Str → Option Value} {En : Ent} {P H : Hp} {σ : L2.St} {γ : Ga} (S : Sat K mg En P σ H γ) (k : Nat) : Sat K mg En P (σ ++ List.replicate k none) H (γ ++ List.replicate k .un) := by
  have at_ : ∀ {i : Nat} {v : V}, σ[i]? = some (some v) → (σ ++ List.replicate k none)[i]? = some (some v) := fun {i v} h => by
    rw [List.getElem?_append_left (List.getElem?_eq_some_iff.mp h).1]; exact h
  refine ⟨S.sub, by simp [S.len], S.old, S.new, S.keep, S.dom, S.tab, S.tabP, fun i d h => ?_, fun i d h => ?_, fun i j d e n h1 h2 => ?_⟩
  · rcases getElem?_app_rep h with h | ⟨_, h⟩
    · obtain ⟨v, h1, h2⟩ := S.pu i d h
      exact ⟨v, at_ h1, h2⟩
    · cases h
  · rcases getElem?_app_rep h with h | ⟨_, h⟩
    · obtain ⟨a, h1, h2, h3, h4⟩ := S.mu i d h
      exact ⟨a, at_ h1, h2, h3, h4.imp_left fun ⟨z1, z2⟩ => ⟨z1, by rw [at_ h1, ← z2, h1]⟩⟩
    · cases h
  · rcases getElem?_app_rep h1 with h1 | ⟨_, h1⟩
    · rcases getElem?_app_rep h2 with h2 | ⟨_, h2⟩
      · obtain ⟨a, g1, _⟩ := S.mu i d h1
        obtain ⟨b, g2, _⟩ := S.mu j e h2
        rw [at_ g1, at_ g2, ← g1, ← g2]
        exact S.ne i j d e n h1 h2
      · cases h2
    · cases h1
section
variable {P : Program} {w : World} {K : PySem.W.Frag} {mg : Str → Option Value} {base : Heap}
/-- what a body may lean on -/
structure Bo (X : Cx) (W : WX) (k : Nat) : Prop where
  calm : X.calm = true
  nd : X.N.Nodup
  tk : Takes X W
  room : Room k X.A
theorem Bo.hu {X : Cx} {W : WX} {k : Nat} (b : Bo X W k) : X.A.units + 64 < cLine := b.room.units
theorem takes_w0 {X : Cx} : Takes X W0 := fun _ _ ⟨_, _, _, _, _, _, _, _, _, _, _, _, _, _, _, _, w⟩ => w.elim
theorem Bo.blk {X : Cx} {W : WX} {k : Nat} (b : Bo X W k) {scope : Scope} {s : Shared} {H : Hp} {C : Addr} {cl : List (Str × Addr)} {fp : List Addr} : Bo (BX X scope s H C cl fp) W0 k := ⟨b.calm, b.nd, takes_w0, b.room⟩
/-- a def by its body -/
theorem fn_D {x : Str} {st : Stmt} {f : Addr} {fd : FuncData} {N ps : List Str} {k : Nat} {T : List (Addr × Str)} {ms : List Nat} {h : Ga → R (Fl × Ga)} (F : L2.Fun K x x st f fd) (S : FnScope N ps (defScope st))
    (hbody : ∀ (cdv : Value) (A : Around) (outer : List Env) (s : Shared) (H : Hp) (E : XK) (P0 : Hp) (σ0 : L2.St), Bo (cxOf (L2.CX P w) P w K mg base N x (defScope st) f cdv A outer s H E) (fun cls d _ H' => E cls d H') k →
      EvSs (cxOf (L2.CX P w) P w K mg base N x (defScope st) f cdv A outer s H E) (fun cls d _ H' => E cls d H') ⟨H, P0, σ0, ms, T⟩ (defBody st) h) :
    FnOk P w K mg base (L2.CX P w) (k + 1) f fd ps (spD K mg T ms ps.length (mDef ps.length (N.length - ps.length) h)) := by
  refine F.okX S (fun vs H Q E q => q.1) fun cdv A outer s H vs Q E hr ⟨hl, P0, γ, S0, q⟩ => ?_
  have tk : Takes (cxOf (L2.CX P w) P w K mg base N x (defScope st) f cdv A outer s H E) (fun cls d _ H' => E cls d H') := takes_of rfl rfl rfl rfl
  obtain ⟨t, pt, ht⟩ := hbody cdv A outer s H E P0 (vs.map some) ⟨rfl, S.nd, tk, hr⟩
  refine ⟨t, pt, ?_⟩
  refine ht _ H P0 (γ ++ List.replicate (N.length - ps.length) .un) _ (by
    have := S0.start (N.length - ps.length)
    unfold L2.start
    rw [hl]
    exact this) ?_
  unfold mDef at q
  cases e : h (γ ++ List.replicate (N.length - ps.length) .un) with
  | no => rw [e] at q; exact q.elim
  | exc c => rw [e] at q; exact fun σ' H' cls kp tb m => q H' cls kp tb m
  | ok r =>
    obtain ⟨fl, γ'⟩ := r
    rw [e, R.ok_bind] at q
    cases fl with
    | next => exact fun σ' H' P' S' x => q .non σ' H' P' γ' S' x rfl .non
    | ret d => exact fun v σ' H' P' S' x r => q v σ' H' P' γ' S' x rfl r
    | brk => exact q.elim
    | cont => exact q.elim
end

/-! ### its calls -/
def argSl (γ : Ga) : List Res → R (List Sl)
  | [] => .ok []
  | .val d :: rs => argSl γ rs >>= fun r => .ok (.pu d :: r)
  | .cell i :: rs => muAt γ i >>= fun d => argSl γ rs >>= fun r => .ok (.mu d :: r)
/-- where objects of one's own are handed over -/
def cellPos : Nat → List Res → List Nat
  | _, [] => []
  | n, .val _ :: rs => cellPos (n + 1) rs
  | n, .cell _ :: rs => n :: cellPos (n + 1) rs
def cellIx : List Res → List Nat
  | [] => []
  | .val _ :: rs => cellIx rs
  | .cell i :: rs => i :: cellIx rs
/-- what they are behind the call -/
def backSl : List Res → List Sl → Ga → R Ga
  | [], _, γ => .ok γ
  | .val _ :: rs, _ :: os, γ => backSl rs os γ
  | .cell i :: rs, .mu d :: os, γ => backSl rs os (γ.set i (.mu d))
  | _, _, _ => .no
def eCallD (n : Nat) (ms : List Nat) (m : List Sl → R (D × List Sl)) (g : Ga → R (List Res × Ga)) : Ga → R (Res × Ga) := fun γ => g γ >>= fun p => argSl p.2 p.1 >>= fun as =>
  if p.1.length = n ∧ cellPos 0 p.1 = ms ∧ (cellIx p.1).Nodup then m as >>= fun r => backSl p.1 r.2 p.2 >>= fun γ' => .ok (.val r.1, γ') else .no
theorem argSl_exc {γ : Ga} {c : Str} : ∀ {rs : List Res}, argSl γ rs = .exc c → False
  | [], h => by cases h
  | .val d :: rs, h => by
    unfold argSl at h
    cases e : argSl γ rs with
    | ok r => rw [e] at h; cases h
    | exc c => exact argSl_exc e
    | no => rw [e] at h; cases h
  | .cell i :: rs, h => by
    unfold argSl at h
    rcases muAt_cases γ i with ⟨d, e0, _⟩ | e0
    · rw [e0, R.ok_bind] at h
      cases e : argSl γ rs with
      | ok r => rw [e] at h; cases h
      | exc c => exact argSl_exc e
      | no => rw [e] at h; cases h
    · rw [e0] at h; cases h
theorem backSl_exc {c : Str} : ∀ {rs : List Res} {os : List Sl} {γ : Ga}, backSl rs os γ = .exc c → False
  | [], _, _, h => by cases h
  | .val _ :: rs, [], _, h => by cases h
  | .val _ :: rs, _ :: os, γ, h => backSl_exc (rs := rs) (os := os) h
  | .cell _ :: rs, [], _, h => by cases h
  | .cell _ :: rs, .un :: os, _, h => by cases h
  | .cell _ :: rs, .pu _ :: os, _, h => by cases h
  | .cell _ :: rs, .mu _ :: os, _, h => backSl_exc (rs := rs) (os := os) h
section
variable {K : PySem.W.Frag} {mg : Str → Option Value} {En : Ent} {P H : Hp} {σ : L2.St} {γ : Ga}
theorem ResReps.len {rs : List Res} {vs : List V} (h : ResReps K mg P σ rs vs) : rs.length = vs.length := by
  induction h with
  | nil => rfl
  | cons _ _ ih => simp [ih]
theorem argSl_len : ∀ {rs : List Res} {as : List Sl}, argSl γ rs = .ok as → as.length = rs.length
  | [], as, h => by cases h; rfl
  | .val d :: rs, as, h => by
    unfold argSl at h
    cases e : argSl γ rs with
    | ok r => rw [e] at h; cases h; simp [argSl_len e]
    | exc c => rw [e] at h; cases h
    | no => rw [e] at h; cases h
  | .cell i :: rs, as, h => by
    unfold argSl at h
    cases e0 : muAt γ i with
    | ok d =>
      rw [e0, R.ok_bind] at h
      cases e : argSl γ rs with
      | ok r => rw [e] at h; cases h; simp [argSl_len e]
      | exc c => rw [e] at h; cases h
      | no => rw [e] at h; cases h
    | exc c => rw [e0] at h; cases h
    | no => rw [e0] at h; cases h
theorem muAt_ok {γ : Ga} {i : Nat} {d : D} (h : muAt γ i = .ok d) : γ[i]? = some (.mu d) := by
  rcases muAt_cases γ i with ⟨d', e, e2⟩ | e
  · rw [e] at h; cases h; exact e2
  · rw [e] at h; cases h
/-- each argument: a tree, or the object of the slot i -/
theorem argSl_get : ∀ {rs : List Res} {as : List Sl} {vs : List V} {j : Nat} {s : Sl}, argSl γ rs = .ok as → ResReps K mg P σ rs vs → as[j]? = some s →
    (∃ d v, rs[j]? = some (.val d) ∧ s = .pu d ∧ vs[j]? = some v ∧ Rep K mg P d v) ∨ ∃ i d v, rs[j]? = some (.cell i) ∧ s = .mu d ∧ γ[i]? = some (.mu d) ∧ vs[j]? = some v ∧ σ[i]? = some (some v)
  | [], _, _, j, s, h, .nil, e => by cases h; simp at e
  | .val d :: rs, as, _, j, s, h, .cons r0 r, e => by
    unfold argSl at h
    cases e1 : argSl γ rs with
    | exc c => rw [e1] at h; cases h
    | no => rw [e1] at h; cases h
    | ok q =>
      rw [e1] at h
      cases h
      cases j with
      | zero => simp at e; subst e; exact .inl ⟨d, _, rfl, rfl, rfl, r0⟩
      | succ j => exact argSl_get (j := j) e1 r (by simpa using e)
  | .cell i :: rs, as, _, j, s, h, .cons r0 r, e => by
    unfold argSl at h
    cases e0 : muAt γ i with
    | exc c => rw [e0] at h; cases h
    | no => rw [e0] at h; cases h
    | ok d =>
      rw [e0, R.ok_bind] at h
      cases e1 : argSl γ rs with
      | exc c => rw [e1] at h; cases h
      | no => rw [e1] at h; cases h
      | ok q =>
        rw [e1] at h
        cases h
        cases j with
        | zero => simp at e; subst e; exact .inr ⟨i, d, _, rfl, rfl, muAt_ok e0, rfl, r0⟩
        | succ j => exact argSl_get (j := j) e1 r (by simpa using e)
theorem cellPos_mem : ∀ {rs : List Res} {n j : Nat}, j ∈ cellPos n rs ↔ n ≤ j ∧ ∃ i, rs[j - n]? = some (.cell i)
  | [], n, j => by simp [cellPos]
  | .val d :: rs, n, j => by
    simp only [cellPos]
    rw [cellPos_mem (rs := rs)]
    constructor
    · rintro ⟨h1, i, h2⟩
      refine ⟨by omega, i, ?_⟩
      rw [show j - n = (j - (n + 1)) + 1 by omega]; simpa using h2
    · rintro ⟨h1, i, h2⟩
      rcases Nat.eq_or_lt_of_le h1 with e | l
      · subst e; simp at h2
      · refine ⟨l, i, ?_⟩
        rw [show j - n = (j - (n + 1)) + 1 by omega] at h2; simpa using h2
  | .cell c :: rs, n, j => by
    simp only [cellPos, List.mem_cons]
    rw [cellPos_mem (rs := rs)]
    constructor
    · rintro (rfl | ⟨h1, i, h2⟩)
      · exact ⟨Nat.le_refl _, c, by simp⟩
      · refine ⟨by omega, i, ?_⟩
        rw [show j - n = (j - (n + 1)) + 1 by omega]; simpa using h2
    · rintro ⟨h1, i, h2⟩
      rcases Nat.eq_or_lt_of_le h1 with e | l
      · exact .inl e.symm
      · refine .inr ⟨l, i, ?_⟩
        rw [show j - n = (j - (n + 1)) + 1 by omega] at h2; simpa using h2
theorem cellIx_mem : ∀ {rs : List Res} {i : Nat}, i ∈ cellIx rs ↔ ∃ j : Nat, rs[j]? = some (Res.cell i)
  | [], i => by simp [cellIx]
  | .val d :: rs, i => by
    simp only [cellIx]
    rw [cellIx_mem (rs := rs)]
    exact ⟨fun ⟨j, h⟩ => ⟨j + 1, by simpa using h⟩, fun ⟨j, h⟩ => by
      cases j with
      | zero => simp at h
      | succ j => exact ⟨j, by simpa using h⟩⟩
  | .cell c :: rs, i => by
    simp only [cellIx, List.mem_cons]
    rw [cellIx_mem (rs := rs)]
    constructor
    · rintro (rfl | ⟨j, h⟩)
      · exact ⟨0, by simp⟩
      · exact ⟨j + 1, by simpa using h⟩
    · rintro ⟨j, h⟩
      cases j with
      | zero => simp at h; exact .inl h.symm
      | succ j => exact .inr ⟨j, by simpa using h⟩
theorem cellIx_inj : ∀ {rs : List Res} {i j k : Nat}, (cellIx rs).Nodup → rs[j]? = some (.cell i) → rs[k]? = some (.cell i) → j = k
  | [], i, j, k, _, h, _ => by simp at h
  | .val d :: rs, i, j, k, n, h1, h2 => by
    cases j with
    | zero => simp at h1
    | succ j =>
      cases k with
      | zero => simp at h2
      | succ k => exact congrArg (· + 1) (cellIx_inj (rs := rs) (i := i) (j := j) (k := k) n (by simpa using h1) (by simpa using h2))
  | .cell c :: rs, i, j, k, n, h1, h2 => by
    have n' := List.nodup_cons.mp n
    cases j with
    | zero =>
      simp at h1
      cases k with
      | zero => rfl
      | succ k => exact absurd ((cellIx_mem (rs := rs) (i := i)).mpr ⟨k, by simpa using h2⟩) (by rw [← h1]; exact n'.1)
    | succ j =>
      cases k with
      | zero => simp at h2; exact absurd ((cellIx_mem (rs := rs) (i := i)).mpr ⟨j, by simpa using h1⟩) (by rw [← h2]; exact n'.1)
      | succ k => exact congrArg (· + 1) (cellIx_inj (rs := rs) (i := i) (j := j) (k := k) n'.2 (by simpa using h1) (by simpa using h2))
/-- what is written back: at each handed slot the object's tree, elsewhere nothing new -/
theorem backSl_get : ∀ {rs : List Res} {os : List Sl} {γ γ' : Ga}, backSl rs os γ = .ok γ' → γ'.length = γ.length ∧ (∀ i, i ∉ cellIx rs → γ'[i]? = γ[i]?) ∧
    ((cellIx rs).Nodup → ∀ (i : Nat) (d : D), i ∈ cellIx rs → γ'[i]? = some (Sl.mu d) → ∃ j : Nat, rs[j]? = some (Res.cell i) ∧ os[j]? = some (Sl.mu d)) ∧ ∀ (i : Nat) (s : Sl), i ∈ cellIx rs → γ'[i]? = some s → ∃ d, s = .mu d
  | [], os, γ, γ', h => by cases h; exact ⟨rfl, fun _ _ => rfl, (fun _ _ _ h => by cases h), (fun _ _ h => by cases h)⟩
  | .val d :: rs, [], γ, γ', h => by cases h
  | .val d :: rs, o :: os, γ, γ', h => by
    obtain ⟨h1, h2, h3, h4⟩ := backSl_get (rs := rs) (os := os) h
    exact ⟨h1, h2, fun n i d hi e => by obtain ⟨j, a, b⟩ := h3 n i d hi e; exact ⟨j + 1, by simpa using a, by simpa using b⟩, h4⟩
  | .cell c :: rs, [], γ, γ', h => by cases h
  | .cell c :: rs, .un :: os, γ, γ', h => by cases h
  | .cell c :: rs, .pu d :: os, γ, γ', h => by cases h
  | .cell c :: rs, .mu d :: os, γ, γ', h => by
    obtain ⟨h1, h2, h3, h4⟩ := backSl_get (rs := rs) (os := os) (γ := γ.set c (.mu d)) h
    refine ⟨by simpa using h1, fun i hi => ?_, fun n i d' hi e => ?_, fun i s hi e => ?_⟩
    · simp only [cellIx, List.mem_cons, not_or] at hi
      rw [h2 i hi.2, List.getElem?_set_ne (Ne.symm hi.1)]
    · have n' := List.nodup_cons.mp n
      simp only [cellIx, List.mem_cons] at hi
      rcases hi with rfl | hi
      · rw [h2 i n'.1] at e
        rcases set_get e with ⟨_, z⟩ | ⟨z, _⟩
        · cases z; exact ⟨0, by simp, by simp⟩
        · exact absurd rfl z
      · obtain ⟨j, a, b⟩ := h3 n'.2 i d' hi e
        exact ⟨j + 1, by simpa using a, by simpa using b⟩
    · simp only [cellIx, List.mem_cons] at hi
      by_cases hr : i ∈ cellIx rs
      · exact h4 i s hr e
      · rcases hi with rfl | hi
        · rw [h2 i hr] at e
          rcases set_get e with ⟨_, z⟩ | ⟨z, _⟩
          · exact ⟨d, z⟩
          · exact absurd rfl z
        · exact absurd hi hr
/-- the callee's entry -/
theorem Sat.entry (S : Sat K mg En P σ H γ) {rs : List Res} {as : List Sl} {vs : List V} (ha : argSl γ rs = .ok as) (r : ResReps K mg P σ rs vs) (nd : (cellIx rs).Nodup) : Sat K mg ⟨H, P, vs.map some, cellPos 0 rs, En.T⟩ P (vs.map some) H as := by
  have lv : vs.length = as.length := by rw [argSl_len ha, r.len]
  refine ⟨S.sub, by simpa using lv, Ex.refl P, fun a h => .inl h, fun a o h _ => h, fun a h => h, S.tab, S.tabP, fun j d h => ?_, fun j d h => ?_, fun j k d e n h1 h2 => ?_⟩
  · rcases argSl_get ha r h with ⟨d', v, g1, g2, g3, g4⟩ | ⟨i, d', v, _, g2, _⟩
    · cases g2; exact ⟨v, by rw [List.getElem?_map, g3]; rfl, g4⟩
    · cases g2
  · rcases argSl_get ha r h with ⟨d', v, g1, g2, g3, g4⟩ | ⟨i, d', v, g1, g2, g3, g4, g5⟩
    · cases g2
    · cases g2
      obtain ⟨a, h1, h2, h3, _⟩ := S.mu i d g3
      rw [g5] at h1; cases h1
      refine ⟨a, by rw [List.getElem?_map, g4]; rfl, h2, h3, .inl ⟨cellPos_mem.mpr ⟨Nat.zero_le _, i, by simpa using g1⟩, rfl⟩⟩
  · rcases argSl_get ha r h1 with ⟨_, _, _, z, _⟩ | ⟨i, d', v, g1, g2, g3, g4, g5⟩
    · cases z
    · rcases argSl_get ha r h2 with ⟨_, _, _, z, _⟩ | ⟨i', d'', v', g1', g2', g3', g4', g5'⟩
      · cases z
      · have hi : i ≠ i' := fun z => n (cellIx_inj nd g1 (by rw [z]; exact g1'))
        have := S.ne i i' d' d'' hi g3 g3'
        rw [g5, g5'] at this
        rw [List.getElem?_map, List.getElem?_map, g4, g4']
        exact this
/-- what stood at the entry and may not change is no object of one's own -/
theorem Sat.not_mu (S : Sat K mg En P σ H γ) {a : Addr} {o : HO} (e : En.H0 a = some o) (nm : ¬ En.M a) : ¬ MuAt En.T σ γ a := fun z => by
  rcases z with ⟨i, d, h1, h2⟩ | z
  · obtain ⟨b, g1, g2, g3, g4⟩ := S.mu i d h1
    rw [h2] at g1; cases g1
    rcases g4 with ⟨g5, g6⟩ | ⟨g5, g6⟩
    · exact nm (.inl ⟨i, g5, by rw [← g6, h2]⟩)
    · rw [g6] at e; cases e
  · exact nm (.inr z)
theorem Sat.keeps' (S : Sat K mg En P σ H γ) {a : Addr} {o : HO} (e : En.H0 a = some o) (nm : ¬ En.M a) {C : Prop} (k : H a = some o → C) : C := k (S.keep a o e nm)
/-- what the callee may change -/
theorem entry_M {rs : List Res} {vs : List V} (r : ResReps K mg P σ rs vs) {a : Addr} (h : (⟨H, P, vs.map some, cellPos 0 rs, En.T⟩ : Ent).M a) : (∃ (i j : Nat), rs[j]? = some (.cell i) ∧ σ[i]? = some (some (.ref a))) ∨ a ∈ En.T.map (·.1) := by
  rcases h with ⟨j, hj, e⟩ | h
  · obtain ⟨_, i, hi⟩ := cellPos_mem.mp hj
    rw [Nat.sub_zero] at hi
    refine .inl ⟨i, j, hi, ?_⟩
    have e : (vs.map some)[j]? = some (some (.ref a)) := e
    rw [List.getElem?_map] at e
    have : ∀ {rs : List Res} {vs : List V} {j : Nat}, ResReps K mg P σ rs vs → rs[j]? = some (.cell i) → ∃ v, vs[j]? = some v ∧ σ[i]? = some (some v) := by
      intro rs vs j r
      induction r generalizing j with
      | nil => intro h; simp at h
      | @cons r0 v rs vs h0 _ ih =>
        intro h
        cases j with
        | zero => simp at h; subst h; exact ⟨v, rfl, h0⟩
        | succ j => obtain ⟨v, g1, g2⟩ := ih (by simpa using h); exact ⟨v, by simpa using g1, g2⟩
    obtain ⟨v, g1, g2⟩ := this r hi
    rw [g1] at e
    have : v = .ref a := by simpa using e
    rw [g2, this]
  · exact .inr h
theorem argSl_cell : ∀ {rs : List Res} {as : List Sl} {j i : Nat}, argSl γ rs = .ok as → rs[j]? = some (.cell i) → ∃ d, γ[i]? = some (.mu d)
  | [], _, j, i, _, h => by simp at h
  | .val d :: rs, as, j, i, h, e => by
    unfold argSl at h
    cases e1 : argSl γ rs with
    | exc c => rw [e1] at h; cases h
    | no => rw [e1] at h; cases h
    | ok q =>
      cases j with
      | zero => simp at e
      | succ j => exact argSl_cell (j := j) e1 (by simpa using e)
  | .cell c :: rs, as, j, i, h, e => by
    unfold argSl at h
    cases e0 : muAt γ c with
    | exc c => rw [e0] at h; cases h
    | no => rw [e0] at h; cases h
    | ok d =>
      rw [e0, R.ok_bind] at h
      cases e1 : argSl γ rs with
      | exc c => rw [e1] at h; cases h
      | no => rw [e1] at h; cases h
      | ok q =>
        cases j with
        | zero => simp at e; subst e; exact ⟨d, muAt_ok e0⟩
        | succ j => exact argSl_cell (j := j) e1 (by simpa using e)
theorem entry_mu {rs : List Res} {as : List Sl} {vs : List V} (ha : argSl γ rs = .ok as) (r : ResReps K mg P σ rs vs) {a : Addr} (h : (⟨H, P, vs.map some, cellPos 0 rs, En.T⟩ : Ent).M a) : MuAt En.T σ γ a := by
  rcases entry_M r h with ⟨i, j, h1, h2⟩ | h
  · obtain ⟨d, h3⟩ := argSl_cell ha h1
    exact .inl ⟨i, d, h3, h2⟩
  · exact .inr h
theorem MuAt.obj (S : Sat K mg En P σ H γ) {a : Addr} (h : MuAt En.T σ γ a) : ∃ o, H a = some o ∧ ∀ xs, o ≠ .tup xs := by
  rcases h with ⟨i, d, h1, h2⟩ | h
  · obtain ⟨b, h3, h4, h5, _⟩ := S.mu i d h1
    rw [h3] at h2; cases h2
    obtain ⟨o, ho, mo⟩ := h5.there
    exact ⟨o, ho, fun xs z => by subst z; exact mo⟩
  · obtain ⟨p, hp, rfl⟩ := List.mem_map.mp h
    obtain ⟨ps, h1, _⟩ := S.tab p hp
    exact ⟨_, h1, fun xs z => by cases z⟩
/-- behind the call -/
theorem Sat.back (S : Sat K mg En P σ H γ) {rs : List Res} {as outs : List Sl} {vs : List V} {P2 H2 : Hp} {σ2 : L2.St} {γ2 γ' : Ga} (ha : argSl γ rs = .ok as) (r : ResReps K mg P σ rs vs) (nd : (cellIx rs).Nodup)
    (S2 : Sat K mg ⟨H, P, vs.map some, cellPos 0 rs, En.T⟩ P2 σ2 H2 γ2) (ho : ∀ (j : Nat) (d : D), outs[j]? = some (Sl.mu d) → γ2[j]? = some (Sl.mu d)) (hb : backSl rs outs γ = .ok γ') : Sat K mg En P2 σ H2 γ' ∧ Stp En.T σ γ P H γ' P2 H2 := by
  obtain ⟨b1, b2, b3, b4⟩ := backSl_get hb
  have tups : ∀ a xs, H a = some (.tup xs) → H2 a = some (.tup xs) := fun a xs h => S2.keep a _ h fun z => by
    obtain ⟨o, h1, h2⟩ := MuAt.obj S (entry_mu ha r z)
    rw [h1] at h; cases h; exact h2 xs rfl
  have new : ∀ a, P2 a ≠ none → P a ≠ none ∨ H a = none ∨ ∃ xs, H2 a = some (.tup xs) := S2.new
  -- an object of one's own behind the call
  have own : ∀ (i : Nat) (d : D), γ'[i]? = some (.mu d) → ∃ a d0, γ[i]? = some (.mu d0) ∧ σ[i]? = some (some (.ref a)) ∧ P2 a = none ∧ Own K mg P2 H2 d a := fun i d h => by
    by_cases hi : i ∈ cellIx rs
    · obtain ⟨j, g1, g2⟩ := b3 nd i d hi h
      obtain ⟨d0, g0⟩ := argSl_cell ha g1
      obtain ⟨a0, f1, f2, f3, f4⟩ := S.mu i d0 g0
      have g3 : γ2[j]? = some (.mu d) := ho j d g2
      obtain ⟨a, k1, k2, k3, k4⟩ := S2.mu j d g3
      have hj : j ∈ cellPos 0 rs := cellPos_mem.mpr ⟨Nat.zero_le _, i, by simpa using g1⟩
      rcases k4 with ⟨_, k4⟩ | ⟨k4, _⟩
      · rcases entry_M (H := H) (En := En) r (a := a) (.inl ⟨j, hj, by rw [← k4, k1]⟩) with z | z
        · -- the address that was handed over
          have e0 : (vs.map some)[j]? = some (some (.ref a)) := by
            have k4 : σ2[j]? = (vs.map some)[j]? := k4
            rw [← k4, k1]
          have e1 : ∀ {rs : List Res} {vs : List V} {j : Nat}, ResReps K mg P σ rs vs → rs[j]? = some (.cell i) → ∃ v, vs[j]? = some v ∧ σ[i]? = some (some v) := by
            intro rs vs j r
            induction r generalizing j with
            | nil => intro h; simp at h
            | @cons r0 v rs vs h0 _ ih =>
              intro h
              cases j with
              | zero => simp at h; subst h; exact ⟨v, rfl, h0⟩
              | succ j => obtain ⟨v, g1, g2⟩ := ih (by simpa using h); exact ⟨v, by simpa using g1, g2⟩
          obtain ⟨v, q1, q2⟩ := e1 r g1
          rw [List.getElem?_map, q1] at e0
          have : v = .ref a := by simpa using e0
          exact ⟨a, d0, g0, by rw [q2, this], k2, k3⟩
        · -- no table is an object of one's own
          obtain ⟨p, hp, rfl⟩ := List.mem_map.mp z
          obtain ⟨ps, q1, _⟩ := S2.tab p hp
          obtain ⟨o, q2, q3⟩ := k3.there
          rw [q1] at q2; cases q2; exact q3.elim
      · exact absurd hj k4
    · rw [b2 i hi] at h
      obtain ⟨a, f1, f2, f3, f4⟩ := S.mu i d h
      obtain ⟨o, q2, q3⟩ := f3.there
      have nM : ¬ (⟨H, P, vs.map some, cellPos 0 rs, En.T⟩ : Ent).M a := fun z => by
        rcases entry_M r z with ⟨i', j, h1, h2⟩ | z
        · obtain ⟨d', h3⟩ := argSl_cell ha h1
          have hne : i ≠ i' := fun e => hi (cellIx_mem.mpr ⟨j, by rw [e]; exact h1⟩)
          exact S.ne i i' d d' hne h h3 (by rw [f1, h2])
        · obtain ⟨p, hp, rfl⟩ := List.mem_map.mp z
          obtain ⟨ps, q1, _⟩ := S.tab p hp
          rw [q1] at q2; cases q2; exact q3.elim
      have k := S2.keep a o q2 nM
      have same : ∀ o', H a = some o' → H2 a = some o' := fun o' e => S2.keep a o' e nM
      refine ⟨a, d, h, f1, ?_, f3.mono S2.old same⟩
      cases q : P2 a with
      | none => rfl
      | some u =>
        rcases new a (by rw [q]; simp) with z | z | ⟨xs, z⟩
        · exact absurd f2 z
        · rw [q2] at z; cases z
        · rw [k] at z; cases z; exact q3.elim
  have mus : ∀ a, MuAt En.T σ γ' a → MuAt En.T σ γ a := fun a h => by
    rcases h with ⟨i, d, h1, h2⟩ | h
    · obtain ⟨b, d0, g1, g2, _⟩ := own i d h1
      exact .inl ⟨i, d0, g1, h2⟩
    · exact .inr h
  refine ⟨⟨S2.sub, by rw [b1]; exact S.len, S.old.trans S2.old, fun a h => ?_, fun a o h nm => ?_, fun a h => S2.dom a (S.dom a h), S2.tab, S2.tabP, fun i d h => ?_, fun i d h => ?_, fun i j d e n h1 h2 => ?_⟩, ⟨S2.old, fun a h => ?_, fun a o h nm => S2.keep a o h fun z => nm (entry_mu ha r z), S2.dom, mus, tups⟩⟩
  · rcases new a h with h | h | h
    · rcases S.new a h with h | h | ⟨xs, h⟩
      · exact .inl h
      · exact .inr (.inl h)
      · exact .inr (.inr ⟨xs, tups a xs h⟩)
    · exact .inr (.inl (Classical.byContradiction fun z => S.dom a z h))
    · exact .inr (.inr h)
  · exact S.keeps' h nm fun q => S2.keep a o q fun z => by
      exact absurd (entry_mu ha r z) (S.not_mu h nm)
  · by_cases hi : i ∈ cellIx rs
    · obtain ⟨d', z⟩ := b4 i _ hi h
      cases z
    · rw [b2 i hi] at h
      obtain ⟨v, h1, h2⟩ := S.pu i d h
      exact ⟨v, h1, h2.mono S2.old⟩
  · obtain ⟨a, d0, g1, g2, g3, g4⟩ := own i d h
    obtain ⟨b, f1, f2, f3, f4⟩ := S.mu i d0 g1
    rw [g2] at f1; cases f1
    exact ⟨a, g2, g3, g4, f4⟩
  · obtain ⟨a, d0, g1, g2, g3, g4⟩ := own i d h1
    obtain ⟨b, e0, f1, f2, f3, f4⟩ := own j e h2
    exact S.ne i j d0 e0 n g1 f1
  · rcases new a h with h | h | h
    · exact .inl h
    · exact .inr (.inl h)
    · exact .inr (.inr (.inr h))
end
theorem take_mu {γ outs : List Sl} {n : Nat} (h : γ.take n = outs) : ∀ (j : Nat) (d : D), outs[j]? = some (Sl.mu d) → γ[j]? = some (Sl.mu d) := fun j d e => by
  rw [← h, List.getElem?_take] at e
  split at e
  · exact e
  · cases e
section
variable {X : Cx} {W : WX} {En : Ent} {e : Expr} {es : List Expr} {p pos : Pos} {g : Ga → R (List Res × Ga)} {x : Str} {f : Addr} {fd : FuncData} {ps : List Str} {k : Nat} {ms : List Nat} {n : Nat} {m : List Sl → R (D × List Sl)}
theorem call_go {t : TA} (h : ∀ σ H P γ Q, Sat X.K X.mg En P σ H γ → PostG X W En (repA X) σ P H γ Q (g γ) → t σ H Q)
    {σ : L2.St} {H P : Hp} {γ : Ga} {Q : VK} (S : Sat X.K X.mg En P σ H γ) (q : PostG X W En (repE X) σ P H γ Q (eCallD n ms m g γ)) :
    t σ H fun vs H1 => spD X.K X.mg En.T ms n m vs H1 Q (WE W σ) := by
  refine h σ H P γ _ S ?_
  unfold eCallD at q
  cases ea : g γ with
  | no => rw [ea] at q; exact q
  | exc c => rw [ea] at q; exact q
  | ok r0 =>
    obtain ⟨rs, γ1⟩ := r0
    rw [ea, R.ok_bind] at q
    intro vs H1 P1 S1 T1 r
    have q1 := PostG.later T1 (fun P' H' σ a b => hrepE _ _ P' H' σ a b T1.dom) q
    simp only at q1
    cases e1 : argSl γ1 rs with
    | no => rw [e1] at q1; exact q1.elim
    | exc c => exact (argSl_exc e1).elim
    | ok as =>
      rw [e1, R.ok_bind] at q1
      split at q1
      rotate_left
      · exact q1.elim
      rename_i hc
      obtain ⟨hln, hp, nd⟩ := hc
      subst hp
      refine ⟨by rw [← r.len]; exact hln, P1, as, S1.entry e1 r nd, ?_⟩
      cases e2 : m as with
      | no => rw [e2] at q1; exact q1.elim
      | exc c =>
        rw [e2] at q1
        exact fun H' cls kp tb hm => q1 H' cls (fun a o q nm => kp a o q fun z => nm (entry_mu e1 r z)) tb hm
      | ok r2 =>
        obtain ⟨d, outs⟩ := r2
        rw [e2, R.ok_bind] at q1
        intro v σ' H' P' γ' S' x ho rv
        simp only at q1
        cases e3 : backSl rs outs γ1 with
        | no => rw [e3] at q1; exact q1.elim
        | exc c => exact (backSl_exc e3).elim
        | ok γ2 =>
          rw [e3, R.ok_bind] at q1
          obtain ⟨S3, T3⟩ := S1.back e1 r nd S' (take_mu ho) e3
          exact q1 v H' P' S3 T3 rv
/-- f(..), f a def of the module -/
theorem ev_call {j : Nat} (F : FnOk X.prog X.w X.K X.mg X.base (L2.CX X.prog X.w) j f fd ps (spD X.K X.mg En.T ms n m)) (hr : Room k X.A) (hj : j ≤ k) (hg : Gl X x) (hm : X.mg x = some (.ref f)) (hk : PySem.W.keepIn X.K (.ref f) = true) (hb : Binds X.K fd ps []) (tk : Takes X W)
    (ha : EvA X W En (e :: es) g) (hdb : (x == ("__debug__" : Str)) = false := by decide) (he : starEach (e :: es) X.env = (false, eval e X.env) :: starEach es X.env := by rfl) (hpl : (backTo pos (starEach es X.env)).any (·.1) = false := by rfl) :
    Ev X W En (.Call (.Name x p) (e :: es) [] pos) (eCallD n ms m g) := by
  obtain ⟨t, pa, ha⟩ := ha
  exact ⟨_, pe_callS F (hr.mono hj) hg hm hk hb (passAt tk) pa hdb he hpl, fun σ H P γ Q S q => call_go ha S q⟩
end
end DL
end
section
set_option Elab.async false
set_option linter.all false
set_option maxRecDepth 100000
namespace DL
open PySem L2 Evl PySem.Spec PyProof.Rows

section
variable {X : Cx} {W : WX} {En : Ent} {e a b c o ke ve : Expr} {es : List Expr} {keys : List (Option Expr)} {values : List Expr} {pos p p1 p2 p3 apos cpos : Pos} {f fa fb fc fi fv fk fo : Ga → R (Res × Ga)} {g : Ga → R (List Res × Ga)}
/-! ### {}, {k: v, ..} -/
def fDNewK : Ga → R (D × Ga) := fun γ => .ok (.dct false [] [], γ)
def fDNewT : Ga → R (D × Ga) := fun γ => .ok (.dct true [] [], γ)
theorem ef_dnewK : EvF X W En (.Dict [] [] pos) fDNewK := ⟨_, pe_dnewK, fun σ H P γ Q S q p n => q.new S n (Ex.new n) (.inr (.inl ⟨_, _, [], rfl, upd_same, .nil, .nil⟩))⟩
theorem ef_dnewT : EvF X W En (.Dict [] [] pos) fDNewT := ⟨_, pe_dnewT, fun σ H P γ Q S q p n => q.new S n (Ex.new n) (.inr (.inr ⟨_, _, [], rfl, upd_same, .nil, .nil⟩))⟩
inductive RepP (K : PySem.W.Frag) (mg : Str → Option Value) (P : Hp) : List (DK × D) → List (V × V) → Prop
  | nil : RepP K mg P [] []
  | cons {k : DK} {d : D} {x v : V} {kds : List (DK × D)} {ps : List (V × V)} : k.isT = false → x = kV (keyK k) → Rep K mg P d v → RepP K mg P kds ps → RepP K mg P ((k, d) :: kds) ((x, v) :: ps)
abbrev repP (X : Cx) : Hp → Hp → Hp → L2.St → List (DK × D) → List (V × V) → Prop := fun _ P' _ _ kds ps => RepP X.K X.mg P' kds ps
def EvPr (X : Cx) (W : WX) (En : Ent) (pos : Pos) (keys : List (Option Expr)) (values : List Expr) (f : Ga → R (List (DK × D) × Ga)) : Prop :=
  ∃ trs, PPs X pos keys values trs ∧ ∀ σ H P γ Q, Sat X.K X.mg En P σ H γ → PostG X W En (repP X) σ P H γ Q (f γ) → tPairs trs σ H Q
def prNil : Ga → R (List (DK × D) × Ga) := fun γ => .ok ([], γ)
def prCons (fk fv : Ga → R (Res × Ga)) (r : Ga → R (List (DK × D) × Ga)) : Ga → R (List (DK × D) × Ga) := fun γ => fk γ >>= fun p => valOf p.1 >>= fun k => fv p.2 >>= fun q => valOf q.1 >>= fun v => ofO k.key >>= fun kk => if kk.isT = true then .no else r q.2 >>= fun z => .ok ((kk, v) :: z.1, z.2)
theorem epr_nil : EvPr X W En pos [] [] prNil := ⟨[], pps_nil, fun σ H P γ Q S q => q [] H P S .refl .nil⟩
theorem RepP.mono {K : PySem.W.Frag} {mg : Str → Option Value} {P P1 : Hp} (x : Ex P P1) {kds : List (DK × D)} {ps : List (V × V)} (h : RepP K mg P kds ps) : RepP K mg P1 kds ps := by
  induction h with
  | nil => exact .nil
  | cons a b c _ ih => exact .cons a b (c.mono x) ih
theorem epr_cons {r : Ga → R (List (DK × D) × Ga)} (hk : Ev X W En ke fk) (hv : Ev X W En ve fv) (hr : EvPr X W En pos keys values r) : EvPr X W En pos (some ke :: keys) (ve :: values) (prCons fk fv r) := by
  obtain ⟨tk, pk, hk⟩ := hk
  obtain ⟨tv, pv, hv⟩ := hv
  obtain ⟨trs, pr, hr⟩ := hr
  refine ⟨_, pps_cons pk pv pr, fun σ H P γ Q S q => ?_⟩
  refine hk σ H P γ _ S ?_
  unfold prCons at q
  cases e1 : fk γ with
  | no => rw [e1] at q; exact q
  | exc c => rw [e1] at q; exact q
  | ok r1 =>
    obtain ⟨r1, γ1⟩ := r1
    rw [e1, R.ok_bind] at q
    intro x H1 P1 S1 T1 rx
    have q := PostG.later T1 (fun _ _ _ _ _ h => h) q
    obtain ⟨dk, e2, q⟩ := valOf_bind (C := PostG X W En (repP X) σ P1 H1 γ1 Q) (fun z => z) q
    simp only at e2
    subst e2
    have rx : Rep X.K X.mg P1 dk x := rx
    refine hv σ H1 P1 γ1 _ S1 ?_
    simp only at q
    cases e3 : fv γ1 with
    | no => rw [e3] at q; exact q
    | exc c => rw [e3] at q; exact q
    | ok r2 =>
      obtain ⟨r2, γ2⟩ := r2
      rw [e3, R.ok_bind] at q
      intro y H2 P2 S2 T2 ry
      have q := PostG.later T2 (fun _ _ _ _ _ h => h) q
      obtain ⟨dv, e4, q⟩ := valOf_bind (C := PostG X W En (repP X) σ P2 H2 γ2 Q) (fun z => z) q
      simp only at e4
      subst e4
      have ry : Rep X.K X.mg P2 dv y := ry
      obtain ⟨kk, e5, q⟩ := ofO_ok (C := PostG X W En (repP X) σ P2 H2 γ2 Q) (fun z => z) q
      split at q
      · exact q.elim
      rename_i hT
      have hT : kk.isT = false := by simpa using hT
      have ex : x = kV (keyK kk) := key_flat (H := H1) e5 hT (rx.w S1.sub)
      refine hr σ H2 P2 γ2 _ S2 ?_
      simp only at q
      cases e6 : r γ2 with
      | no => rw [e6] at q; exact q
      | exc c => rw [e6] at q; exact q
      | ok r3 =>
        obtain ⟨kds, γ3⟩ := r3
        rw [e6, R.ok_bind] at q
        intro ps H3 P3 S3 T3 rp
        have rp : RepP X.K X.mg P3 kds ps := rp
        exact q _ H3 P3 S3 T3 (.cons hT ex (ry.mono T3.ph) rp)
def fDisp (r : Ga → R (List (DK × D) × Ga)) : Ga → R (D × Ga) := fun γ => r γ >>= fun p => if p.1.length ≤ 15 then .ok (.dct false (dMerge (p.1.map (·.1)) (p.1.map (·.2)) [] []).1 (dMerge (p.1.map (·.1)) (p.1.map (·.2)) [] []).2, p.2) else .no
theorem RepP.kvs {K : PySem.W.Frag} {mg : Str → Option Value} {P : Hp} {kds : List (DK × D)} {ps : List (V × V)} (h : RepP K mg P kds ps) : ∃ kvs : List (Key × V), ps = kvs.map (fun kv => (kV kv.1, kv.2)) ∧ kvs.length = kds.length ∧ kvs.map (·.1) = (kds.map (·.1)).map keyK ∧ (∀ k ∈ kds.map (·.1), k.isT = false) ∧ RepL K mg P (kds.map (·.2)) (kvs.map (·.2)) := by
  induction h with
  | nil => exact ⟨[], rfl, rfl, rfl, fun _ h => (by cases h), .nil⟩
  | @cons k d x v kds ps a b c _ ih =>
    obtain ⟨kvs, h1, h2, h3, h4, h5⟩ := ih
    refine ⟨(keyK k, v) :: kvs, by rw [b, h1]; rfl, by simp [h2], by simp only [List.map_cons, h3], fun z hz => ?_, .cons c h5⟩
    rcases List.mem_cons.mp hz with e | hz
    · rw [e]; exact a
    · exact h4 z hz
theorem ef_disp {r : Ga → R (List (DK × D) × Ga)} (h : EvPr X W En pos keys values r) (hall : keys.all (·.isSome) = true) (hl : keys.length = values.length) (h0 : keys ≠ []) (h15 : keys.length ≤ 15) : EvF X W En (.Dict keys values pos) (fDisp r) := by
  obtain ⟨trs, pr, h⟩ := h
  refine ⟨_, pe_disp pr hall hl h0 h15, fun σ H P γ Q S q p n => ?_⟩
  have S0 := S.gr (Gr.up S.sub (Ex.new (o := .dK []) n))
  refine h σ _ P γ _ S0 ?_
  unfold fDisp at q
  have nM : ¬ MuAt En.T σ γ p := fun z => ((z.there S).2 n).elim
  cases e1 : r γ with
  | no => rw [e1] at q; exact q
  | exc c =>
    rw [e1] at q
    exact fun H' cls k tb m => q H' cls (fun a o h nm => k a o (by rw [upd_ne (fun z => by rw [z, n] at h; cases h)]; exact h) nm) tb m
  | ok r1 =>
    obtain ⟨kds, γ1⟩ := r1
    rw [e1, R.ok_bind] at q
    intro ps H2 P2 S2 T2 rp
    have rp : RepP X.K X.mg P2 kds ps := rp
    simp only at q
    split at q
    · rename_i hz
      have G2 := T2.g
      obtain ⟨hp1, hp2⟩ := G2.own (fresh_back S.sub n) upd_same trivial nM
      obtain ⟨kvs, g1, g2, g3, g4, g5⟩ := rp.kvs
      obtain ⟨m1, m2, m3⟩ := merge_rep (kvs := []) (as := []) (bs := []) g3 g4 g5 rfl (fun _ h => by cases h) .nil
      have n0 : En.H0 p = none := Classical.byContradiction fun z => S.dom p z n
      have nM1 : ¬ MuAt En.T σ γ1 p := fun z => nM (T2.mus p z)
      have G := ((Gr.up S.sub (Ex.new (o := .dK []) n)).g (M := MuAt En.T σ γ)).trans G2
      have G3 := G.put (o := .dK (mergeK [] kvs)) n
      refine ⟨hp2, kvs, g1, by omega, q _ _ P2 (S2.upd hp1 n0 hp2 trivial (fun φ z => by cases z) nM1) ⟨G3.ph, G3.new, G3.keep, G3.dom, T2.mus, G3.tups⟩ ⟨p, rfl, n, hp1, .inr (.inl ⟨_, _, _, rfl, upd_same, by rw [m1]; exact KsK.of m2, m3⟩)⟩⟩
    · exact q.elim

/-! ### d.get -/
def dGet (n : Nat) : D → List D → Option D := fun d as => match d with
  | .dct t ks vs => match as with
    | [k] => match k.key with
      | some kk => if kk.isT = t then some ((dLook ks vs kk).getD .non) else none
      | none => none
    | [k, z] => match k.key with
      | some kk => if kk.isT = t then some ((dLook ks vs kk).getD z) else none
      | none => none
    | _ => none
  | _ => none
end
end DL
end
section
set_option Elab.async false
set_option linter.all false
set_option maxRecDepth 100000
namespace DL
open PySem L2 Evl PySem.Spec PyProof.Rows

/-! ### words for printed proofs -/
theorem bt_len : bootBuiltins "len" = some (.builtin "len") := by decide +kernel
theorem bt_abs : bootBuiltins "abs" = some (.builtin "abs") := by decide +kernel
theorem bt_max : bootBuiltins "max" = some (.builtin "max") := by decide +kernel
theorem bt_min : bootBuiltins "min" = some (.builtin "min") := by decide +kernel
theorem bt_sum : bootBuiltins "sum" = some (.builtin "sum") := by decide +kernel
theorem bt_any : bootBuiltins "any" = some (.builtin "any") := by decide +kernel
theorem bt_all : bootBuiltins "all" = some (.builtin "all") := by decide +kernel
theorem bt_sorted : bootBuiltins "sorted" = some (.builtin "sorted") := by decide +kernel
theorem bt_int : bootBuiltins "int" = some (.type "int") := by decide +kernel
theorem bt_tuple : bootBuiltins "tuple" = some (.type "tuple") := by decide +kernel
theorem bt_list : bootBuiltins "list" = some (.type "list") := by decide +kernel

section
variable {X : Cx} {W : WX} {En : Ent} {e : Expr} {es : List Expr} {p pos : Pos} {g : Ga → R (List Res × Ga)} {x : Str} {k n : Nat} {ms : List Nat} {m : List Sl → R (D × List Sl)}
theorem ev_text {x : Str} {s : List Nat} {j} (h : x.cps.toList = s) (hl : okS s = true) : Ev X W En (.Constant (.str x) j pos) (eC (.str s)) := by
  subst h
  exact ev_str (okS_of hl)
/-- a def of the module that may be called -/
structure Cl (P : Program) (w : World) (K : PySem.W.Frag) (mg : Str → Option Value) (base : Heap) (T : List (Addr × Str)) (x : Str) (j : Nat) (ms : List Nat) (n : Nat) (m : List Sl → R (D × List Sl)) : Prop where
  ex : ∃ (f : Addr) (fd : FuncData) (ps : List Str), FnOk P w K mg base (L2.CX P w) j f fd ps (spD K mg T ms n m) ∧ mg x = some (.ref f) ∧ PySem.W.keepIn K (.ref f) = true ∧ Binds K fd ps []
theorem ev_cl {j : Nat} (c : Cl X.prog X.w X.K X.mg X.base En.T x j ms n m) (hr : Room k X.A) (hj : j ≤ k) (tk : Takes X W) (hg : Gl X x)
    (ha : EvA X W En (e :: es) g) (hdb : (x == ("__debug__" : Str)) = false := by decide) (he : starEach (e :: es) X.env = (false, eval e X.env) :: starEach es X.env := by rfl) (hpl : (backTo pos (starEach es X.env)).any (·.1) = false := by rfl) :
    Ev X W En (.Call (.Name x p) (e :: es) [] pos) (eCallD n ms m g) := by
  obtain ⟨f, fd, ps, F, hm, kp, hb⟩ := c.ex
  exact ev_call F hr hj hg hm kp hb tk ha hdb he hpl
end
/-- a def of the text -/
structure Df (K : PySem.W.Frag) (mg : Str → Option Value) (x : Str) (st : Stmt) : Prop where
  ex : ∃ (f : Addr) (fd : FuncData), mg x = some (.ref f) ∧ L2.Fun K x x st f fd
theorem Df.mk' {K : PySem.W.Frag} {h : Heap} {mg : Str → Option Value} (X : K.In h) (G : h.Ns mainGlobals mg) {x : Str} {st : Stmt} {f : Addr} {oc : Value} {od an : Option Addr} {osl : Array (Option Value)} {kV doc pm cdv ct : Value}
    (a : PySem.W.nsIn K mainGlobals x = some (some (.ref f))) (l : K.lookup f = some ⟨oc, od, .func (PySem.W.fnOf x x (defArgs st) (defBody st) (defScope st) .none kV doc pm an cdv ct), osl⟩) (c : PySem.W.codeIn K cdv x = true) (k : PySem.W.keepIn K (.ref f) = true) : Df K mg x st :=
  ⟨f, _, PySem.W.mg_of X G a, fun_mk l c k⟩
/-- a def's promise by its body -/
theorem cl_D {P : Program} {w : World} {K : PySem.W.Frag} {mg : Str → Option Value} {base : Heap} {x : Str} {st : Stmt} {N ps : List Str} {k : Nat} {T : List (Addr × Str)} {ms : List Nat} {h : Ga → R (Fl × Ga)} (D : Df K mg x st) (S : FnScope N ps (defScope st))
    (hb : ∀ (kV doc pm : Value) (an : Option Addr) (cdv ct : Value) (us : List Value), us.length = ps.length → bindArgs (PySem.W.fnOf x x (defArgs st) (defBody st) (defScope st) .none kV doc pm an cdv ct) ⟨us, []⟩ = pure (ps.zip us))
    (hbody : ∀ (f : Addr) (cdv : Value) (A : Around) (outer : List Env) (s : Shared) (H : Hp) (E : XK) (P0 : Hp) (σ0 : L2.St), Bo (cxOf (L2.CX P w) P w K mg base N x (defScope st) f cdv A outer s H E) (fun cls d _ H' => E cls d H') k →
      PassesOwn (model P w) (A.deeper (envOfC x (defScope st) s.heap.objs.size f cdv)) (envOfC x (defScope st) s.heap.objs.size f cdv) (cxOf (L2.CX P w) P w K mg base N x (defScope st) f cdv A outer s H E).xe →
      EvSs (cxOf (L2.CX P w) P w K mg base N x (defScope st) f cdv A outer s H E) (fun cls d _ H' => E cls d H') ⟨H, P0, σ0, ms, T⟩ (defBody st) h) :
    Cl P w K mg base T x (k + 1) ms ps.length (mDef ps.length (N.length - ps.length) h) := by
  obtain ⟨f, fd, hm, F⟩ := D.ex
  exact ⟨f, fd, ps, fn_D F S fun cdv A outer s H E P0 σ0 B => hbody f cdv A outer s H E P0 σ0 B (passes_of (X := cxOf (L2.CX P w) P w K mg base N x (defScope st) f cdv A outer s H E) rfl), hm, F.kp, F.binds hb⟩
/-- an own error class of the text, under ValueError -/
structure Exk (K : PySem.W.Frag) (mg : Str → Option Value) (x : Str) : Prop where
  ex : ∃ C : Addr, mg x = some (.ref C) ∧ PySem.W.keepIn K (.ref C) = true ∧ PySem.W.excIn K C [.type "ValueError", .type "Exception", .type "BaseException", .type "object"] "ValueError.__new__" = true ∧
    PySem.W.subIn K (.ref C) (.type "BaseException") = some true ∧ PySem.W.typeIn K (.ref C) = some (.type "type")
theorem Exk.mk' {K : PySem.W.Frag} {h : Heap} {mg : Str → Option Value} (X : K.In h) (G : h.Ns mainGlobals mg) {x : Str} {C : Addr} (a : PySem.W.nsIn K mainGlobals x = some (some (.ref C))) (k : PySem.W.keepIn K (.ref C) = true)
    (e : PySem.W.excIn K C [.type "ValueError", .type "Exception", .type "BaseException", .type "object"] "ValueError.__new__" = true) (b : PySem.W.subIn K (.ref C) (.type "BaseException") = some true) (t : PySem.W.typeIn K (.ref C) = some (.type "type")) : Exk K mg x :=
  ⟨C, PySem.W.mg_of X G a, k, e, b, t⟩
section
variable {X : Cx} {W : WX} {En : Ent} {p pos p1 q1 q2 : Pos} {x m : Str} {st : Stmt} {j : Nat}
theorem es_raiseX (hc : X.calm = true) (tk : Takes X W) (D : Exk X.K X.mg x) (hg : Gl X x) (hdb : (x == ("__debug__" : Str)) = false := by decide) : EvS X W En (.Raise (some (.Call (.Name x q1) [.Constant (.str m) j q2] [] p1)) none pos) (sRaise x) := by
  obtain ⟨C, g, k, e, b, t⟩ := D.ex
  exact es_raise hc tk PySem.F.excBase_ValueError e g k (raises_own b t) hg hdb
theorem ev_fnD (D : Df X.K X.mg x st) (hg : Gl X x) (hdb : (x == ("__debug__" : Str)) = false := by decide) : Ev X W En (.Name x pos) (eC (.fn x)) := by
  obtain ⟨f, fd, g, _⟩ := D.ex
  exact ev_fn hg g hdb
end
end DL
end
section
set_option Elab.async false
set_option linter.all false
set_option maxRecDepth 100000
namespace DL
open PySem L2 Evl PySem.Spec PyProof.Rows LamX

/-! ### a lambda is made: what becomes of the heap -/
/-- nothing, or the table at P grows and a code object is new -/
def LamN (P : Addr) (H H1 : Hp) : Prop := H1 = H ∨ ∃ (ps0 ps : Array Value) (c' : Addr) (q : Str), H P = some (.tbl ps0) ∧ H c' = none ∧ c' ≠ P ∧ H1 = upd (upd H P (.tbl ps)) c' (CodeO c' q)
section
variable {X : Cx} {pins : List (Addr × Obj)} {σ : L2.St} {H : Hp} {s : Shared}
theorem fr_none (I : Inv X pins σ H s) {f : Addr} (hf : s.heap.objs.size ≤ f) : f ∉ frs X.stack := by
  intro z
  rcases List.mem_cons.mp (I.stkSub _ z) with e | e
  · have h1 := I.lt
    rw [← e] at h1
    exact absurd hf (Nat.not_le_of_lt h1)
  · exact I.nofs hf e
theorem lam_mk {T : List (Addr × Str)} {c P : Addr} {params : Arguments} {body : Expr} {scope : Scope} {pos : Pos} {E : Value → Shared → Prop} {Q : Value → Shared → Prop} (I : Inv X pins σ H s) (TB : TabB X.base X.mg c P) (hcode : X.env.code = .ref c)
    (hm : (P, X.env.qual ++ "<lambda>") ∈ T) (hu : ∀ p ∈ T, p.1 = P → p.2 = X.env.qual ++ "<lambda>") (hT : Tabs T H) (hdef : defaultsOf params X.env = ([], [])) (hfree : ∀ y ∈ scope.names, y.2 = .free → ∃ c, X.env.cells.lookup y.1 = some c)
    (h : ∀ (f c' : Addr) (pm ctv : Value) (H1 : Hp) (s' : Shared), Inv X pins σ H1 s' → LamN P H H1 → Tabs T H1 →
      s'.heap.get? f = some (PySem.W.kla_obj "<lambda>" (X.env.qual ++ "<lambda>") params body scope (cloFrom X.env.cells scope.names []) pm c' ctv) → H1 f = none → f ∉ frs X.stack → H1 c' = some (CodeO c' (X.env.qual ++ "<lambda>")) → Q (.ref f) s') :
    wpAny (model X.prog X.w) X.A (eval (.Lambda params body scope pos) X.env) Q E s := by
  obtain ⟨ps, hP, ht, ha⟩ := hT _ hm
  refine PySem.W.kla_eval hdef ?_
  have hP2 := (show ObjOk X.prog X.w H s.heap P (.tbl ps) from I.hok P _ hP)
  have hPs : s.heap.get? P = some { cls := .none, data := .fields ps } := hP2
  cases hc : codeAmong pos ps.toList with
  | some cv =>
    obtain ⟨c', e, hco⟩ := ha pos cv hc
    subst e
    refine PySem.W.kla_makeFunctionHit (c := c) (P := P) (ps := ps) (mg := X.mg) (closure_ok hfree) I.ok.glob (I.mod.glob.keeps I.bk) hcode (TB.code.keeps I.bk) hPs ht hc (TB.bm.keeps I.bk) fun ctv h' tk hx hsz => ?_
    refine h _ c' _ ctv H _ (I.kept fun b o e => Heap.get?_push_of_some _ (hx b o e)) (.inl rfl) hT (Heap.get?_push_size _ rfl) (I.hok.fresh hsz) (fr_none I hsz) hco
  | none =>
    refine PySem.W.kla_makeFunction (c := c) (P := P) (ps := ps) (mg := X.mg) (closure_ok hfree) I.ok.glob (I.mod.glob.keeps I.bk) hcode (TB.code.keeps I.bk) hPs ht hc TB.gP (TB.bm.keeps I.bk) fun c' ctv h' tk hx hge hlt hrec htb => ?_
    obtain ⟨c2, oc, vs, t, e2, hoc, hd, hv⟩ := hrec
    cases e2
    have hsz : s.heap.objs.size ≤ h'.objs.size := by omega
    have nC : H c' = none := I.hok.fresh hge
    have nCP : c' ≠ P := fun z => by rw [z, hP] at nC; cases nC
    have I1 := inv_table (t' := tk) (more := #[rawInt pos.line, rawInt pos.col, .ref c']) (h' := h'.push (PySem.W.kla_obj "<lambda>" (X.env.qual ++ "<lambda>") params body scope (cloFrom X.env.cells scope.names []) ((X.mg "__name__").getD .none) c' ctv)) I hP
      (fun b o hb e => Heap.get?_push_of_some _ (hx b o hb e)) (Heap.get?_push_of_some _ htb) hge ⟨oc, vs, t, Heap.get?_push_of_some _ hoc, hd, hv⟩
    have up : ∀ b o, H b = some o → b ≠ P → upd (upd H P (.tbl (ps ++ #[rawInt pos.line, rawInt pos.col, .ref c']))) c' (CodeO c' (X.env.qual ++ "<lambda>")) b = some o := fun b o e n => by
      rw [upd_ne (ne_of_none e nC), upd_ne n]; exact e
    have nco : ∀ (b : Addr) (q : Str), H b = some (CodeO b q) → b ≠ P := fun b q e z => by
      rw [z, hP] at e
      unfold CodeO at e
      cases e
    refine h h'.objs.size c' ((X.mg "__name__").getD .none) ctv _ _ I1 (.inr ⟨ps, _, c', _, hP, nC, nCP, rfl⟩) (fun p hp => ?_) (Heap.get?_push_size _ rfl) ?_ (fr_none I hsz) upd_same
    · by_cases hb : p.1 = P
      · rw [hu p hp hb, hb]
        refine ⟨_, by rw [upd_ne (Ne.symm nCP), upd_same], ?_, fun p' cv hcv => ?_⟩
        · rw [show (ps ++ #[rawInt pos.line, rawInt pos.col, .ref c']).toList = ps.toList ++ [rawInt pos.line, rawInt pos.col, .ref c'] by simp]
          exact PySem.TriplesOk_snoc _ _ _ _ ht
        · rw [show (ps ++ #[rawInt pos.line, rawInt pos.col, .ref c']).toList = ps.toList ++ [rawInt pos.line, rawInt pos.col, .ref c'] by simp] at hcv
          rcases among_app _ ht hcv with z | z
          · obtain ⟨c0, e1, e2⟩ := ha p' cv z
            exact ⟨c0, e1, up _ _ e2 (nco _ _ e2)⟩
          · exact ⟨c', z, upd_same⟩
      · obtain ⟨ps', a1, a2, a3⟩ := hT p hp
        refine ⟨ps', up _ _ a1 hb, a2, fun p' cv hcv => ?_⟩
        obtain ⟨c0, e1, e2⟩ := a3 p' cv hcv
        exact ⟨c0, e1, up _ _ e2 (nco _ _ e2)⟩
    · have n1 : h'.objs.size ≠ c' := Nat.ne_of_gt hlt
      have n2 : h'.objs.size ≠ P := Nat.ne_of_gt (Nat.lt_of_lt_of_le (Heap.lt_size hPs) hsz)
      rw [upd_ne n1, upd_ne n2]
      exact I.hok.fresh hsz
end
def tLamN (P : Addr) (T : List (Addr × Str)) (TT : (XK → Hp → VK → Prop) → Hp → VK → Prop) (t : XK → TE) : TE := fun σ H Q => Tabs T H ∧ ∀ H1, LamN P H H1 → Tabs T H1 → TT (fun E H' Q' => t E σ H' Q') H1 Q
section
variable {X : Cx}
/-- f(lambda: body), as pe_lamcall, told what becomes of the heap -/
theorem pe_lamN {T : List (Addr × Str)} {TT : (XK → Hp → VK → Prop) → Hp → VK → Prop} {x a : Str} {g c P : Addr} {k : Nat} {pg : Arguments} {bg : List Stmt} {sg : Scope} {dV kV doc pm cdv ct oc : Value} {an od : Option Addr} {osl : Array (Option Value)} {Ng : List Str}
    {params : Arguments} {body : Expr} {scope : Scope} {t : XK → TE} {p lpos pos : Pos} (hg : Gl X x) (hm : X.mg x = some (.ref g)) (hk : PySem.W.keepIn X.K (.ref g) = true)
    (lk : X.K.lookup g = some ⟨oc, od, .func (PySem.W.fnOf x x pg bg sg dV kV doc pm an cdv ct), osl⟩) (hcg : PySem.W.codeIn X.K cdv x = true) (hb : L2.Binds X.K (PySem.W.fnOf x x pg bg sg dV kV doc pm an cdv ct) [a] []) (Sg : FnScope Ng [a] sg) (hNg : Ng[0]? = some a) (hva : Vis sg a)
    (hG : GivesTo X Ng x sg g cdv bg a (X.env.qual ++ "<lambda>") TT)
    (TB : TabB X.base X.mg c P) (hcode : X.env.code = .ref c) (hmT : (P, X.env.qual ++ "<lambda>") ∈ T) (hu : ∀ p ∈ T, p.1 = P → p.2 = X.env.qual ++ "<lambda>") (hr : Room (k + 2) X.A) (L : LamS X.env.scope scope) (hdef : defaultsOf params X.env = ([], []))
    (hbind : ∀ (q : Str) (cl : List (Str × Addr)) (pm cv ctv : Value), bindArgs (PySem.W.kla_fn "<lambda>" q params body scope cl pm cv ctv) ⟨[], []⟩ = pure [])
    (hbody : ∀ (A : Around) (outer : List Env) (s : Shared) (H : Hp) (E : XK) (f c' : Addr), Room k (A.deeper (lamEnv X scope s.heap.objs.size f c')) → PE (lamCx X A outer s H E scope f c') body (t E))
    (hdb : (x == ("__debug__" : Str)) = false := by decide) (hd : (a == ("__debug__" : Str)) = false := by decide) (hcd : (a == ("__classdict__" : Str)) = false := by decide) :
    PE X (.Call (.Name x p) [.Lambda params body scope lpos] [] pos) (tLamN P T TT t) := by
  refine ⟨fun pins s σ H Q I ⟨hT, h⟩ => wpAny_Call_Name_kw (ld_glob I hg hm (PySem.W.callWith_K (h₀ := X.base) I.ok.mod.kin hk ?_ (by rfl) (by rfl)) hdb)⟩
  change wpAny _ _ (spliced ((false, eval (.Lambda params body scope lpos) X.env) :: backTo pos (starEach ([] : List Expr) X.env))) _ _ s
  refine Calls.spliced_cons (lam_mk I TB hcode hmT hu hT hdef (L.has I.ok) fun f c' pm' ctv H1 s' I1 eN T1 hf hfn hfr hco => Calls.spliced_nil ⟨I1.kIn, ?_⟩)
  refine wpAny_call (codeAny_mono (run_ofS (CX := C8.CX0) (N := Ng) (ps := [a]) (us := [.ref f]) (vs := [.ref f]) (Q := Q) (E := C8.E0) lk hcg Sg hr I1.env0 (hb s' [.ref f] I1.kIn rfl) (.cons rfl .nil) rfl fun hr' => ?_) fun r s2 hq => ?_)
  · obtain ⟨t', ht', hq'⟩ := hG f c' s' H1 Q (fun E H' Q' => t E σ H' Q') (fun W pn xe E p1 p2 tk hW => pe_act (i := 0) I1 L hf hfn hfr (hbind _ _ _ _ _) tk hW hr' (fun A outer s H hr2 => hbody A outer s H E f c' hr2) hNg hva hd hcd) hco (h H1 eN T1)
    exact ⟨t', ht'.nox, hq'⟩
  · match r, hq with
    | .ok (.ret u), hq => exact I1.after hq
    | .ok .next, hq => exact False.elim hq
    | .ok .brk, hq => exact False.elim hq
    | .ok .cont, hq => exact False.elim hq
    | .error e, hq => exact (show False from hq).elim
end
end DL
end
section
set_option Elab.async false
set_option linter.all false
set_option maxRecDepth 100000
namespace DL
open PySem L2 Evl PySem.Spec PyProof.Rows LamX

/-! ### try: return ("told", call()) / except A: return "a" / .. -/
def wish (K : PySem.W.Frag) (Q : VK) : List (Addr × Str) → Value → Hp → Prop
  | [], _, _ => False
  | (C, r) :: l, cls, H => ∃ b, PySem.W.exmOne K cls (.ref C) = some b ∧ (b = true → Q (.str r) H) ∧ (b = false → wish K Q l cls H)
def TMet (K : PySem.W.Frag) (told : Str) (l : List (Addr × Str)) : (XK → Hp → VK → Prop) → Hp → VK → Prop := fun tl H Q =>
  tl (fun cls _ H' => wish K Q l cls H') H fun v H' => ([.str told, v] : List V).length ≤ sizeLine ∧ ∀ p, H' p = none → Q (.ref p) (upd H' p (.tup [.str told, v]))
inductive Hds (mg : Str → Option Value) (sg : Scope) : List ExceptHandler → List (Addr × Str) → Prop
  | nil : Hds mg sg [] []
  | cons {e ret : Str} {C : Addr} {j : Nat} {p4 p5 p6 p7 : Pos} {hds : List ExceptHandler} {l : List (Addr × Str)} (hge : sg.names.lookup e = some .globalImplicit) (hme : mg e = some (.ref C)) (hde : (e == ("__debug__" : Str)) = false) (r : Hds mg sg hds l) :
      Hds mg sg (.ExceptHandler (some (.Name e p4)) none [.Return (some (.Constant (.str ret) j p5)) p6] p7 :: hds) ((C, ret) :: l)
def tsRet (r : Str) : Addr → Value → Option Addr → TS := fun _ _ _ D _ H => D.rt (.str r) H
theorem hds_ok {X : Cx} {sg : Scope} (hk : ∀ e, sg.names.lookup e = some .globalImplicit → Gl X e) {hds : List ExceptHandler} {l : List (Addr × Str)} (h : Hds X.mg sg hds l) : HdsOk X hds (l.map fun q => (Value.ref q.1, tsRet q.2)) := by
  induction h with
  | nil => exact .nil
  | @cons e ret C j p4 p5 p6 p7 hds l hge hme hde r ih => exact .cons (ts := tsRet ret) ⟨hk e hge, hde, .inl hme⟩ (fun a oe cls d pn _ _ => pss_one (ps_ret pe_str)) ih
theorem wish_many {K : PySem.W.Frag} {D : Ends} {Q : VK} (hD : D.rt = Q) {σ : L2.St} {d : Option Addr} : ∀ {l : List (Addr × Str)} {cls : Value} {H : Hp}, wish K Q l cls H → wMany K (fun _ _ _ _ => False) D (l.map fun q => (Value.ref q.1, tsRet q.2)) cls d σ H
  | [], _, _, h => h
  | (C, r) :: l, cls, H, ⟨b, h1, h2, h3⟩ => ⟨b, h1, fun hb a _ => by show D.rt (.str r) H; rw [hD]; exact h2 hb, fun hb => wish_many hD (h3 hb)⟩
theorem met_gives {X : Cx} {Ng : List Str} {x a q told : Str} {sg : Scope} {g : Addr} {cdg : Value} {j kt : Nat} {h₀ : ExceptHandler} {hds : List ExceptHandler} {l : List (Addr × Str)} {p1 p2 p3 p8 pt pc : Pos} (hh : Hds X.mg sg (h₀ :: hds) l) (h0 : ∀ f : Addr, (L2.start Ng [V.ref f])[0]? = some (some (V.ref f))) :
    GivesTo X Ng x sg g cdg [.Try [.Return (some (.Tuple [.Constant (.str told) j pc, .Call (.Name a p1) [] [] p2] kt pt)) p3] (h₀ :: hds) [] [] p8] a q (TMet X.K told l) := by
  intro f c' s H Q tl act hc h
  refine ⟨_, pss_one (ps_try_many (X := (cxOf C8.CX0 X.prog X.w X.K X.mg X.base Ng x sg g cdg X.A X.stack s H C8.E0).nox) (Wout := fun _ _ _ _ => False)
      (tb := fun W D σ H => ∃ Ech : XK, (∀ cls d σ' H', Ech cls d H' → W cls d σ' H') ∧ σ[0]? = some (some (.ref f)) ∧ H c' = some (CodeO c' q) ∧ tl Ech H fun v H' => ([.str told, v] : List V).length ≤ sizeLine ∧ ∀ p, H' p = none → D.rt (.ref p) (upd H' p (.tup [.str told, v])))
      rfl rfl takes_none5 (fun W pn xe tk _ => ?_) (hds_ok (fun e he => he) hh)), ?_⟩
  · refine ⟨fun pins s' σ H' D I ⟨Ech, hW, h1, h2, h3⟩ => ?_⟩
    have hp := act W pn xe Ech p1 p2 tk hW
    exact (pss_one (ps_ret (pos := p3) (pe_tup (x1 := kt) (pos := pt) (pa_cons (pe_str (x := told) (j := j) (pos := pc)) (pa_cons hp pa_nil))))).run pins s' σ H' D I ⟨h1, h2, h3⟩
  · exact ⟨fun cls _ H' => wish X.K Q l cls H', fun cls d σ' H' w => wish_many rfl w, h0 f, hc, h⟩
end DL
end
section
set_option Elab.async false
set_option linter.all false
set_option maxRecDepth 100000
namespace DL
open PySem L2 Evl PySem.Spec PyProof.Rows LamX

section
variable {K : PySem.W.Frag} {mg : Str → Option Value} {En : Ent} {P P1 H H1 H' : Hp} {σ : L2.St} {γ γ' : Ga}
/-- the objects of one's own left out -/
def pureG : Ga → Ga
  | [] => []
  | .mu _ :: r => .un :: pureG r
  | s :: r => s :: pureG r
theorem pureG_len : ∀ {γ : Ga}, (pureG γ).length = γ.length
  | [] => rfl
  | .mu _ :: r => congrArg (· + 1) (pureG_len (γ := r))
  | .pu _ :: r => congrArg (· + 1) (pureG_len (γ := r))
  | .un :: r => congrArg (· + 1) (pureG_len (γ := r))
theorem pureG_pu : ∀ {γ : Ga} {i : Nat} {d : D}, (pureG γ)[i]? = some (Sl.pu d) → γ[i]? = some (Sl.pu d)
  | [], i, d, h => by simp [pureG] at h
  | .mu _ :: r, 0, d, h => by simp [pureG] at h
  | .mu _ :: r, i + 1, d, h => pureG_pu (γ := r) (i := i) (by simpa [pureG] using h)
  | .pu _ :: r, 0, d, h => by simpa [pureG] using h
  | .pu _ :: r, i + 1, d, h => pureG_pu (γ := r) (i := i) (by simpa [pureG] using h)
  | .un :: r, 0, d, h => by simp [pureG] at h
  | .un :: r, i + 1, d, h => pureG_pu (γ := r) (i := i) (by simpa [pureG] using h)
theorem pureG_mu : ∀ {γ : Ga} {i : Nat} {d : D}, (pureG γ)[i]? ≠ some (Sl.mu d)
  | [], i, d, h => by simp [pureG] at h
  | .mu _ :: r, 0, d, h => by simp [pureG] at h
  | .mu _ :: r, i + 1, d, h => pureG_mu (γ := r) (i := i) (by simpa [pureG] using h)
  | .pu _ :: r, 0, d, h => by simp [pureG] at h
  | .pu _ :: r, i + 1, d, h => pureG_mu (γ := r) (i := i) (by simpa [pureG] using h)
  | .un :: r, 0, d, h => by simp [pureG] at h
  | .un :: r, i + 1, d, h => pureG_mu (γ := r) (i := i) (by simpa [pureG] using h)
theorem mu_pure {T : List (Addr × Str)} {a : Addr} (h : MuAt T σ (pureG γ) a) : a ∈ T.map (·.1) := by
  rcases h with ⟨i, d, h1, _⟩ | h
  · exact absurd h1 pureG_mu
  · exact h
theorem Sat.pure (S : Sat K mg En P σ H γ) : Sat K mg En P σ H (pureG γ) :=
  ⟨S.sub, by rw [pureG_len]; exact S.len, S.old, S.new, S.keep, S.dom, S.tab, S.tabP, fun i d h => S.pu i d (pureG_pu h), fun i d h => absurd h pureG_mu, fun i j d e _ h => absurd h pureG_mu⟩
/-- what is kept but for the tables -/
theorem Sat.stay (S : Sat K mg En P σ H γ) (k : ∀ a o, H a = some o → a ∉ En.T.map (·.1) → H1 a = some o) (tb : Tabs En.T H1) (dm : ∀ a, H a ≠ none → H1 a ≠ none) : Sat K mg En P σ H1 γ := by
  have noT : ∀ {a : Addr} {o : HO}, H a = some o → (∀ ps, o ≠ .tbl ps) → H1 a = some o := fun {a o} e h => k a o e fun z => by
    obtain ⟨p, hp, rfl⟩ := List.mem_map.mp z
    obtain ⟨ps, h1, _⟩ := S.tab p hp
    rw [h1] at e; cases e; exact h ps rfl
  refine ⟨fun a o h => k a o (S.sub a o h) fun z => ?_, S.len, S.old, fun a h => ?_, fun a o h nm => k a o (S.keep a o h nm) fun z => nm (.inr z), fun a h => dm a (S.dom a h), tb, S.tabP, S.pu, fun i d h => ?_, S.ne⟩
  · obtain ⟨p, hp, rfl⟩ := List.mem_map.mp z
    rw [S.tabP p hp] at h; cases h
  · rcases S.new a h with h | h | ⟨xs, h⟩
    · exact .inl h
    · exact .inr (.inl h)
    · exact .inr (.inr ⟨xs, noT h fun ps z => by cases z⟩)
  · obtain ⟨a, h1, h2, h3, h4⟩ := S.mu i d h
    obtain ⟨o, ho, mo⟩ := h3.there
    refine ⟨a, h1, h2, h3.mono (Ex.refl P) fun o' e => noT e fun ps z => ?_, h4⟩
    rw [ho] at e; cases e; subst z; exact mo
theorem lam_keep {Pt : Addr} {q : Str} {T : List (Addr × Str)} (hm : (Pt, q) ∈ T) (h : LamN Pt H H1) : (∀ a o, H a = some o → a ∉ T.map (·.1) → H1 a = some o) ∧ (∀ a, H a ≠ none → H1 a ≠ none) ∧ ∀ a, H1 a = none → H a = none := by
  rcases h with rfl | ⟨ps0, ps, c', q', hP, nC, nCP, rfl⟩
  · exact ⟨fun _ _ h _ => h, fun _ h => h, fun _ h => h⟩
  · refine ⟨fun a o h n => ?_, fun a h => ?_, fun a h => ?_⟩
    · have n1 : a ≠ Pt := fun z => n (List.mem_map.mpr ⟨_, hm, z.symm⟩)
      rw [upd_ne (ne_of_none h nC), upd_ne n1]; exact h
    · by_cases z : a = c'
      · rw [z, upd_same]; simp
      · rw [upd_ne z]
        by_cases z2 : a = Pt
        · rw [z2, upd_same]; simp
        · rw [upd_ne z2]; exact h
    · by_cases z : a = c'
      · rw [z, upd_same] at h; cases h
      · rw [upd_ne z] at h
        by_cases z2 : a = Pt
        · rw [z2, upd_same] at h; cases h
        · rw [upd_ne z2] at h; exact h
/-- the objects of one's own, behind what did not touch them -/
theorem Sat.restore {P' : Hp} (S1 : Sat K mg En P σ H1 γ) (T' : Stp En.T σ (pureG γ) P H1 γ' P' H') (S' : Sat K mg En P' σ H' γ') : Sat K mg En P' σ H' γ := by
  refine ⟨S'.sub, S1.len, S'.old, S'.new, S'.keep, S'.dom, S'.tab, S'.tabP, fun i d h => ?_, fun i d h => ?_, S1.ne⟩
  · obtain ⟨v, h1, h2⟩ := S1.pu i d h
    exact ⟨v, h1, h2.mono T'.ph⟩
  · obtain ⟨a, h1, h2, h3, h4⟩ := S1.mu i d h
    obtain ⟨o, ho, mo⟩ := h3.there
    have nt : ¬ MuAt En.T σ (pureG γ) a := fun z => by
      obtain ⟨p, hp, rfl⟩ := List.mem_map.mp (mu_pure z)
      obtain ⟨ps, e1, _⟩ := S1.tab p hp
      rw [ho] at e1; cases e1; exact mo
    have hk := T'.keep a o ho nt
    refine ⟨a, h1, ?_, h3.mono T'.ph fun o' e => T'.keep a o' e nt, h4⟩
    cases q : P' a with
    | none => rfl
    | some u =>
      rcases T'.new a (by rw [q]; simp) with z | z | z | ⟨xs, z⟩
      · exact absurd h2 z
      · rw [ho] at z; cases z
      · exact absurd z nt
      · rw [hk] at z; cases z; exact mo.elim
end
/-- _law_met(lambda: ..) -/
def eMet6 (told : List Nat) (l : List (Str × List Nat)) (fb : Ga → R (Res × Ga)) : Ga → R (Res × Ga) := fun γ => match fb (pureG γ) with
  | .ok (r, _) => valOf r >>= fun d => .ok (.val (.tup [.str told, d]), γ)
  | .exc c => match l.lookup c with
    | some r => .ok (.val (.str r), γ)
    | none => .no
  | .no => .no
section
variable {X : Cx} {W : WX} {En : Ent}
/-- the clauses, by the classes' names -/
inductive Cls6 (K : PySem.W.Frag) (mg : Str → Option Value) : List (Str × List Nat) → List (Addr × Str) → Prop
  | nil : Cls6 K mg [] []
  | cons {e : Str} {C : Addr} {r : List Nat} {l : List (Str × List Nat)} {l' : List (Addr × Str)} (hm : mg e = some (.ref C)) (hz : okS r = true) (q : Cls6 K mg l l') : Cls6 K mg ((e, r) :: l) ((C, strV r) :: l')
def ExM (K : PySem.W.Frag) (mg : Str → Option Value) (l : List (Str × List Nat)) : Prop := ∀ c ∈ l.map (·.1), ∀ e ∈ l.map (·.1), ∀ (cls : Value) (C : Addr), mg c = some cls → mg e = some (.ref C) → PySem.W.exmOne K cls (.ref C) = some (decide (c = e))
theorem wish_of {K : PySem.W.Frag} {mg : Str → Option Value} {Q : VK} {H : Hp} {c : Str} {cls : Value} {r : List Nat} (hc : mg c = some cls) : ∀ {l : List (Str × List Nat)} {l' : List (Addr × Str)}, Cls6 K mg l l' → (∀ e ∈ l.map (·.1), ∀ C : Addr, mg e = some (.ref C) → PySem.W.exmOne K cls (.ref C) = some (decide (c = e))) → l.lookup c = some r → Q (.str (strV r)) H → wish K Q l' cls H
  | _, _, .nil, _, h, _ => by simp at h
  | _, _, .cons (e := e) (r := r0) (l := l) hm hz q, hx, h, hq => by
    refine ⟨_, hx e (by simp) _ hm, fun hb => ?_, fun hb => ?_⟩
    · have hb : c = e := by simpa using hb
      subst hb
      simp only [List.lookup_cons, beq_self_eq_true, Option.some.injEq] at h
      subst h
      exact hq
    · have hb : c ≠ e := by simpa using hb
      have hb2 : (c == e) = false := by simpa using hb
      simp only [List.lookup_cons, hb2] at h
      exact wish_of hc q (fun e' he C hC => hx e' (by simp only [List.map_cons, List.mem_cons]; exact .inr he) C hC) h hq
theorem cls6_ok {K : PySem.W.Frag} {mg : Str → Option Value} {c : Str} {r : List Nat} : ∀ {l : List (Str × List Nat)} {l' : List (Addr × Str)}, Cls6 K mg l l' → l.lookup c = some r → r.length ≤ sizeLine ∧ c ∈ l.map (·.1)
  | _, _, .nil, h => by simp at h
  | _, _, .cons (e := e) (r := r0) (l := l) hm hz q, h => by
    by_cases hb : c = e
    · subst hb
      simp only [List.lookup_cons, beq_self_eq_true, Option.some.injEq] at h
      subst h
      exact ⟨okS_of hz, by simp⟩
    · have hb2 : (c == e) = false := by simpa using hb
      simp only [List.lookup_cons, hb2] at h
      obtain ⟨h1, h2⟩ := cls6_ok q h
      exact ⟨h1, by simp only [List.map_cons, List.mem_cons]; exact .inr h2⟩
def uL (K : PySem.W.Frag) (mg : Str → Option Value) (En : Ent) (f : Ga → R (Res × Ga)) (E : XK) : TE := fun σ H Q => ∃ P γ, Sat K mg En P σ H γ ∧ PostK K mg (fun cls d _ H' => E cls d H') En (fun _ P' _ σ r v => ResRep K mg P' σ r v) σ P H γ Q (f γ)
/-- the def that tries what it gets -/
structure Mt (K : PySem.W.Frag) (mg : Str → Option Value) (x a : Str) (told : List Nat) (l : List (Str × List Nat)) (st : Stmt) : Prop where
  ex : ∃ (g : Addr) (fd : FuncData) (Ng : List Str) (l' : List (Addr × Str)), mg x = some (.ref g) ∧ L2.Fun K x x st g fd ∧ FnScope Ng [a] (defScope st) ∧ Ng[0]? = some a ∧ Vis (defScope st) a ∧ (∀ f : Addr, (L2.start Ng [V.ref f])[0]? = some (some (V.ref f))) ∧ Cls6 K mg l l' ∧ ExM K mg l ∧
    (∀ (kV doc pm : Value) (an : Option Addr) (cdv ct : Value) (us : List Value), us.length = 1 → bindArgs (PySem.W.fnOf x x (defArgs st) (defBody st) (defScope st) .none kV doc pm an cdv ct) ⟨us, []⟩ = pure (([a] : List Str).zip us)) ∧
    ∃ (j kt : Nat) (h₀ : ExceptHandler) (hds : List ExceptHandler) (p1 p2 p3 p8 pt pc : Pos), defBody st = [.Try [.Return (some (.Tuple [.Constant (.str (strV told)) j pc, .Call (.Name a p1) [] [] p2] kt pt)) p3] (h₀ :: hds) [] [] p8] ∧ Hds mg (defScope st) (h₀ :: hds) l'
theorem ev_met6 {x a : Str} {told : List Nat} {l : List (Str × List Nat)} {st : Stmt} {c Pt : Addr} {k j : Nat} {params : Arguments} {body : Expr} {scope : Scope} {fb : Ga → R (Res × Ga)} {p lpos pos : Pos} (M : Mt X.K X.mg x a told l st) (hto : okS told = true) (hg : Gl X x)
    (TB : TabB X.base X.mg c Pt) (hcode : X.env.code = .ref c) {lq : Str} (hET : En.T = [(Pt, lq)]) (hlq : X.env.qual ++ "<lambda>" = lq) (hr : Room j X.A) (hj : k + 2 ≤ j) (L : LamS X.env.scope scope) (hdef : defaultsOf params X.env = ([], []))
    (hbind : ∀ (q : Str) (cl : List (Str × Addr)) (pm cv ctv : Value), bindArgs (PySem.W.kla_fn "<lambda>" q params body scope cl pm cv ctv) ⟨[], []⟩ = pure [])
    (hbody : ∀ (A : Around) (outer : List Env) (s : Shared) (H : Hp) (E : XK) (f c' : Addr), Bo (lamCx X A outer s H E scope f c') (fun cls d _ H' => E cls d H') k → Ev (lamCx X A outer s H E scope f c') (fun cls d _ H' => E cls d H') En body fb) (nd : X.N.Nodup)
    (hdb : (x == ("__debug__" : Str)) = false := by decide) (hd : (a == ("__debug__" : Str)) = false := by decide) (hcd : (a == ("__classdict__" : Str)) = false := by decide) :
    Ev X W En (.Call (.Name x p) [.Lambda params body scope lpos] [] pos) (eMet6 told l fb) := by
  have hmT : (Pt, X.env.qual ++ "<lambda>") ∈ En.T := by rw [hET, hlq]; exact List.mem_cons_self
  have hu : ∀ p ∈ En.T, p.1 = Pt → p.2 = X.env.qual ++ "<lambda>" := fun p hp _ => by
    rw [hET] at hp
    have := List.mem_singleton.mp hp
    rw [this, hlq]
  obtain ⟨g, fd, Ng, l', hm, F, Sg, hNg, hva, h0, C6, hx, hbd, j, kt, h₀, hds, p1, p2, p3, p8, pt, pc, hst, hh⟩ := M.ex
  obtain ⟨oc, od, kV, doc, pm, an, cdv, ct, osl, efd, lk, hcg⟩ := F.ex
  subst efd
  have hb : L2.Binds X.K (PySem.W.fnOf x x (defArgs st) (defBody st) (defScope st) .none kV doc pm an cdv ct) [a] [] := .all (hbd kV doc pm an cdv ct)
  have hG : GivesTo X Ng x (defScope st) g cdv (defBody st) a (X.env.qual ++ "<lambda>") (TMet X.K (strV told) l') := by
    rw [hst]; exact met_gives hh h0
  refine ⟨_, pe_lamN (T := En.T) (t := uL X.K X.mg En fb) hg hm F.kp lk hcg hb Sg hNg hva hG TB hcode hmT hu (hr.mono hj) L hdef hbind (fun A outer s H E f c' hr' => ?_) hdb hd hcd, fun σ H P γ Q S q => ⟨S.tab, fun H1 hN T1 => ?_⟩⟩
  · obtain ⟨t, pt', ht⟩ := hbody A outer s H E f c' ⟨rfl, nd, takes_of rfl rfl rfl rfl, hr'⟩
    exact ⟨fun pins s' σ H' Q I ⟨P, γ, S, q⟩ => pt'.run pins s' σ H' Q I (ht σ H' P γ Q S q)⟩
  · obtain ⟨k1, k2, k3⟩ := lam_keep hmT hN
    have S1 : Sat X.K X.mg En P σ H1 γ := S.stay k1 T1 k2
    refine ⟨P, pureG γ, S1.pure, ?_⟩
    have back : ∀ {P' H' : Hp} {γ' : Ga}, Stp En.T σ γ P H1 γ' P' H' → Stp En.T σ γ P H γ' P' H' := fun {P' H' γ'} T => ⟨T.ph, fun a h => by
      rcases T.new a h with h | h | h | h
      · exact .inl h
      · exact .inr (.inl (k3 a h))
      · exact .inr (.inr (.inl h))
      · exact .inr (.inr (.inr h)), fun a o h nm => T.keep a o (k1 a o h fun z => nm (.inr z)) nm, fun a h => T.dom a (k2 a h), T.mus, fun a xs h => T.tups a xs (k1 a _ h fun z => by
        obtain ⟨p, hp, rfl⟩ := List.mem_map.mp z
        obtain ⟨ps, e1, _⟩ := S.tab p hp
        rw [e1] at h; cases h)⟩
    unfold eMet6 at q
    cases e : fb (pureG γ) with
    | no => rw [e] at q; exact q.elim
    | exc c =>
      rw [e] at q
      intro H' cls kp tb hc
      simp only at q
      cases e2 : l.lookup c with
      | none => rw [e2] at q; exact q.elim
      | some r =>
        rw [e2] at q
        obtain ⟨hz, hin⟩ := cls6_ok C6 e2
        have kp' : ∀ a o, H1 a = some o → a ∉ En.T.map (·.1) → H' a = some o := fun a o h n => kp a o h fun z => n (mu_pure z)
        have dm : ∀ a, H1 a ≠ none → H' a ≠ none := fun a h => by
          by_cases z : a ∈ En.T.map (·.1)
          · obtain ⟨p, hp, rfl⟩ := List.mem_map.mp z
            obtain ⟨ps, e1, _⟩ := tb p hp
            rw [e1]; simp
          · cases e1 : H1 a with
            | none => exact absurd e1 h
            | some o => rw [kp' a o e1 z]; simp
        have S2 : Sat X.K X.mg En P σ H' γ := S1.stay kp' tb dm
        refine wish_of hc C6 (fun e he C hC => hx c hin e he cls C hc hC) e2 (q _ H' P S2 (back ⟨Ex.refl P, fun a h => .inl h, fun a o h nm => kp' a o h fun z => nm (.inr z), dm, fun a h => h, fun a xs h => kp' a _ h fun z => ?_⟩) (.str r hz))
        obtain ⟨p, hp, rfl⟩ := List.mem_map.mp z
        obtain ⟨ps, e1, _⟩ := T1 p hp
        rw [e1] at h; cases h
    | ok r0 =>
      obtain ⟨r, γ'⟩ := r0
      rw [e] at q
      intro v H' P' S' T' rv
      obtain ⟨d, e3, q⟩ := valOf_bind (C := PostG X W En (repE X) σ P H γ Q) (fun z => z) q
      subst e3
      have rv : Rep X.K X.mg P' d v := rv
      have S3 := S1.restore T' S'
      refine ⟨by show 2 ≤ sizeLine; decide, fun p hp => ?_⟩
      have nP := fresh_back S3.sub hp
      have G := Gr.add (o := .tup [.str (strV told), v]) S3.sub hp
      have T3 : Stp En.T σ γ P H1 γ P' H' := ⟨T'.ph, fun a h => by
        rcases T'.new a h with h | h | h | h
        · exact .inl h
        · exact .inr (.inl h)
        · exact .inr (.inr (.inl (.inr (mu_pure h))))
        · exact .inr (.inr (.inr h)), fun a o h nm => T'.keep a o h fun z => nm (.inr (mu_pure z)), T'.dom, fun a h => h, T'.tups⟩
      exact q _ _ _ (S3.gr G) ((back T3).trans G.stp) (.tup upd_same (.cons (.str told (okS_of hto)) (.cons (rv.mono (Ex.new nP)) .nil)))
end
end DL
end
section
set_option Elab.async false
set_option linter.all false
set_option maxRecDepth 100000
namespace DL
open PySem L2 Evl PySem.Spec PyProof.Rows LamX

/-! ### a def by a local name -/
abbrev Tbl := List (Str × (List Sl → R (D × List Sl)))
def eCallF (n : Nat) (tbl : Tbl) (i : Nat) (g : Ga → R (List Res × Ga)) : Ga → R (Res × Ga) := fun γ => match γ[i]? with
  | some (.pu (.fn x)) => match tbl.lookup x with
    | some m => eCallD n [] m g γ
    | none => .no
  | _ => .no
section
variable {X : Cx} {W : WX} {En : Ent} {e : Expr} {es : List Expr} {p pos : Pos} {g : Ga → R (List Res × Ga)} {x : Str} {k n : Nat} {tbl : Tbl}
def tCallW (X : Cx) (W : WX) (k i : Nat) (t : TA) : TE := fun σ H Q => ∃ f, σ[i]? = some (some (.ref f)) ∧ ∃ (j : Nat) (fd : FuncData) (ps : List Str) (sp : Sp), FnOk X.prog X.w X.K X.mg X.base (L2.CX X.prog X.w) j f fd ps sp ∧ j ≤ k ∧ PySem.W.keepIn X.K (.ref f) = true ∧ Binds X.K fd ps [] ∧ t σ H fun vs H1 => sp vs H1 Q (WE W σ)
theorem pe_callW {i : Nat} {t : TA} (hr : Room k X.A) (tk : Takes X W) (hN : X.N[i]? = some x) (hv : Vis X.env.scope x) (ha : PA X (e :: es) t) (hdb : (x == ("__debug__" : Str)) = false := by decide) (hcd : (x == ("__classdict__" : Str)) = false := by decide)
    (he : starEach (e :: es) X.env = (false, eval e X.env) :: starEach es X.env := by rfl) (hpl : (backTo pos (starEach es X.env)).any (·.1) = false := by rfl) : PE X (.Call (.Name x p) (e :: es) [] pos) (tCallW X W k i t) := by
  refine ⟨fun pins s σ H Q I ⟨f, hs, j, fd, ps, sp, F, hj, hk, hb, ht⟩ => ?_⟩
  have pn := (pe_var (pos := p) hN hv hdb hcd).run pins s σ H (fun v H1 => v = .ref f ∧ H1 = H) I ⟨.ref f, hs, rfl, rfl⟩
  refine wpAny_Call_Name_kw (thn pn fun u s1 ⟨v, H1, I1, r1, ev, eH⟩ => ?_)
  subst ev eH
  cases r1
  exact PySem.W.callWith_K (h₀ := X.base) I.ok.mod.kin hk (thn (ha.run pos pins s1 σ _ _ I1 ht) fun us s2 ⟨vs, H2, I2, r, q⟩ => ⟨I2.kIn, run_fnS F (hr.mono hj) hb (passAt tk σ) I2 r q⟩) he hpl
/-- each name of the table is a def that may be called -/
def TblOk (X : Cx) (En : Ent) (k n : Nat) (tbl : Tbl) : Prop := ∀ x m, tbl.lookup x = some m → ∃ j, j ≤ k ∧ Cl X.prog X.w X.K X.mg X.base En.T x j [] n m
theorem tbl_nil : TblOk X En k n [] := fun x m h => by simp at h
theorem tbl_cons {y : Str} {m : List Sl → R (D × List Sl)} {j : Nat} (c : Cl X.prog X.w X.K X.mg X.base En.T y j [] n m) (hj : j ≤ k) (h : TblOk X En k n tbl) : TblOk X En k n ((y, m) :: tbl) := fun x m' e => by
  by_cases z : x = y
  · subst z
    simp only [List.lookup_cons, beq_self_eq_true, Option.some.injEq] at e
    subst e
    exact ⟨j, hj, c⟩
  · have z2 : (x == y) = false := by simpa using z
    simp only [List.lookup_cons, z2] at e
    exact h x m' e
theorem ev_callF {i : Nat} (hT : TblOk X En k n tbl) (hr : Room k X.A) (tk : Takes X W) (hN : X.N[i]? = some x) (hv : Vis X.env.scope x) (ha : EvA X W En (e :: es) g) (hdb : (x == ("__debug__" : Str)) = false := by decide) (hcd : (x == ("__classdict__" : Str)) = false := by decide)
    (he : starEach (e :: es) X.env = (false, eval e X.env) :: starEach es X.env := by rfl) (hpl : (backTo pos (starEach es X.env)).any (·.1) = false := by rfl) : Ev X W En (.Call (.Name x p) (e :: es) [] pos) (eCallF n tbl i g) := by
  obtain ⟨t, pa, ha⟩ := ha
  refine ⟨_, pe_callW (i := i) hr tk hN hv pa hdb hcd he hpl, fun σ H P γ Q S q => ?_⟩
  unfold eCallF at q
  split at q
  · rename_i y hy
    split at q
    · rename_i m hm
      obtain ⟨v, h1, h2⟩ := S.pu i _ hy
      cases h2 with
      | fn hf =>
        obtain ⟨j, hj, c⟩ := hT y m hm
        obtain ⟨f, fd, ps, F, hmg, kp, hb⟩ := c.ex
        rw [hf] at hmg
        cases hmg
        exact ⟨_, h1, j, fd, ps, _, F, hj, kp, hb, call_go ha S q⟩
    · exact q.elim
  · exact q.elim
end

/-! ### a def that makes lambdas -/
structure DfC (K : PySem.W.Frag) (mg : Str → Option Value) (x : Str) (st : Stmt) (c : Addr) : Prop where
  ex : ∃ (f : Addr) (oc : Value) (od : Option Addr) (kV doc pm : Value) (an : Option Addr) (ct : Value) (osl : Array (Option Value)), mg x = some (.ref f) ∧
    K.lookup f = some ⟨oc, od, .func (PySem.W.fnOf x x (defArgs st) (defBody st) (defScope st) .none kV doc pm an (.ref c) ct), osl⟩ ∧ PySem.W.codeIn K (.ref c) x = true ∧ PySem.W.keepIn K (.ref f) = true
theorem DfC.mk' {K : PySem.W.Frag} {h : Heap} {mg : Str → Option Value} (X : K.In h) (G : h.Ns mainGlobals mg) {x : Str} {st : Stmt} {f c : Addr} {oc : Value} {od an : Option Addr} {osl : Array (Option Value)} {kV doc pm ct : Value}
    (a : PySem.W.nsIn K mainGlobals x = some (some (.ref f))) (l : K.lookup f = some ⟨oc, od, .func (PySem.W.fnOf x x (defArgs st) (defBody st) (defScope st) .none kV doc pm an (.ref c) ct), osl⟩) (cd : PySem.W.codeIn K (.ref c) x = true) (k : PySem.W.keepIn K (.ref f) = true) : DfC K mg x st c :=
  ⟨f, oc, od, kV, doc, pm, an, ct, osl, PySem.W.mg_of X G a, l, cd, k⟩
theorem cl_DC {P : Program} {w : World} {K : PySem.W.Frag} {mg : Str → Option Value} {base : Heap} {x : Str} {st : Stmt} {c : Addr} {N ps : List Str} {k : Nat} {T : List (Addr × Str)} {ms : List Nat} {h : Ga → R (Fl × Ga)} (D : DfC K mg x st c) (S : FnScope N ps (defScope st))
    (hb : ∀ (kV doc pm : Value) (an : Option Addr) (cdv ct : Value) (us : List Value), us.length = ps.length → bindArgs (PySem.W.fnOf x x (defArgs st) (defBody st) (defScope st) .none kV doc pm an cdv ct) ⟨us, []⟩ = pure (ps.zip us))
    (hbody : ∀ (f : Addr) (A : Around) (outer : List Env) (s : Shared) (H : Hp) (E : XK) (P0 : Hp) (σ0 : L2.St), Bo (cxOf (L2.CX P w) P w K mg base N x (defScope st) f (.ref c) A outer s H E) (fun cls d _ H' => E cls d H') k →
      PassesOwn (model P w) (A.deeper (envOfC x (defScope st) s.heap.objs.size f (.ref c))) (envOfC x (defScope st) s.heap.objs.size f (.ref c)) (cxOf (L2.CX P w) P w K mg base N x (defScope st) f (.ref c) A outer s H E).xe →
      EvSs (cxOf (L2.CX P w) P w K mg base N x (defScope st) f (.ref c) A outer s H E) (fun cls d _ H' => E cls d H') ⟨H, P0, σ0, ms, T⟩ (defBody st) h) :
    Cl P w K mg base T x (k + 1) ms ps.length (mDef ps.length (N.length - ps.length) h) := by
  obtain ⟨f, oc, od, kV, doc, pm, an, ct, osl, hm, lk, cd, kp⟩ := D.ex
  refine ⟨f, _, ps, fn_of lk cd S (fun vs H Q E q => q.1) fun A outer s H vs Q E hr ⟨hl, P0, γ, S0, q⟩ => ?_, hm, kp, .all (hb kV doc pm an (.ref c) ct)⟩
  obtain ⟨t, pt, ht⟩ := hbody f A outer s H E P0 (vs.map some) ⟨rfl, S.nd, takes_of rfl rfl rfl rfl, hr⟩ (passes_of (X := cxOf (L2.CX P w) P w K mg base N x (defScope st) f (.ref c) A outer s H E) rfl)
  refine ⟨t, pt, ht _ H P0 (γ ++ List.replicate (N.length - ps.length) .un) _ (by
    have := S0.start (N.length - ps.length)
    unfold L2.start
    rw [hl]
    exact this) ?_⟩
  unfold mDef at q
  cases e : h (γ ++ List.replicate (N.length - ps.length) .un) with
  | no => rw [e] at q; exact q.elim
  | exc c => rw [e] at q; exact fun σ' H' cls kp tb m => q H' cls kp tb m
  | ok r =>
    obtain ⟨fl, γ'⟩ := r
    rw [e, R.ok_bind] at q
    cases fl with
    | next => exact fun σ' H' P' S' x => q .non σ' H' P' γ' S' x rfl .non
    | ret d => exact fun v σ' H' P' S' x r => q v σ' H' P' γ' S' x rfl r
    | brk => exact q.elim
    | cont => exact q.elim

/-! ### the end: a law -/
/-- what is to be shown of the law's function -/
def Says (n : Nat) (m : List Sl → R (D × List Sl)) : Prop := ∀ ns : List Int, ns.length ≤ n → ∃ outs, m [.pu (.scr (ns.map .int))] = .ok (.bl true, outs)
theorem scr_rep {K : PySem.W.Frag} {mg : Str → Option Value} {P : Hp} : ∀ {ns : List Int}, RepL K mg P (ns.map D.int) (ns.map V.int) := ints_rep
/-- the promise at the script -/
theorem law_sp {K : PySem.W.Frag} {mg : Str → Option Value} {n : Nat} {m : List Sl → R (D × List Sl)} (hm : Says n m) {T : List (Addr × Str)} {H : Hp} {a : Addr} {ns : List Int} (hl : ns.length ≤ n) (hT : ∀ p ∈ T, H p.1 = some (.tbl #[])) (hN : ∀ p ∈ T, K.lookup p.1 = none) (hS : SqL K H a (ns.map V.int)) :
    spD K mg T [] 1 m [.ref a] H (fun v _ => v = .bl true) (fun _ _ _ => False) := by
  obtain ⟨outs, e⟩ := hm ns hl
  -- what is known: the script's own object
  let P : Hp := fun b => if b = a then H a else none
  have hP : SqL K P a (ns.map V.int) := by
    rcases hS with (h | ⟨o, h⟩) | h
    · exact .inl (.inl (by show (if a = a then H a else none) = _; rw [if_pos rfl]; exact h))
    · exact .inl (.inr ⟨o, by show (if a = a then H a else none) = _; rw [if_pos rfl]; exact h⟩)
    · exact .inr h
  have sub : Ex P H := fun b o h => by
    by_cases z : b = a
    · subst z; have h : (if b = b then H b else none) = some o := h; rwa [if_pos rfl] at h
    · have h : (if b = a then H a else none) = some o := h; rw [if_neg z] at h; cases h
  have tP : ∀ p ∈ T, P p.1 = none := fun p hp => by
    by_cases z : p.1 = a
    · exfalso
      have h1 := hT p hp
      rw [z] at h1
      rcases hS with (h | ⟨o, h⟩) | ⟨o, its, nn, hk, _⟩
      · rw [h1] at h; cases h
      · rw [h1] at h; cases h
      · rw [← z, hN p hp] at hk; cases hk
    · show (if p.1 = a then H a else none) = none
      rw [if_neg z]
  refine ⟨rfl, P, [.pu (.scr (ns.map .int))], ⟨sub, rfl, Ex.refl P, fun a h => .inl h, fun a o h _ => h, fun a h => h, fun p hp => ⟨#[], hT p hp, True.intro, fun pos cv hc => ?_⟩, tP, fun i d h => ?_, fun i d h => ?_, fun i j d e _ h => ?_⟩, ?_⟩
  · simp [codeAmong] at hc
  · cases i with
    | zero => simp at h; subst h; exact ⟨.ref a, rfl, .scr hP scr_rep⟩
    | succ i => simp at h
  · cases i with
    | zero => simp at h
    | succ i => simp at h
  · cases i with
    | zero => simp at h
    | succ i => simp at h
  · rw [e]
    intro v σ' H' P' γ' S' x ho rv
    cases rv
    rfl
theorem cx_no {P : Program} {w : World} {outer : List Env} {H : Hp} {s s' : Shared} {e : Value} (h : L2.CX P w outer H s (fun _ _ _ => False) e s') : False := by
  obtain ⟨_, _, _, _, _, _, _, _, _, _, _, _, z⟩ := h
  exact z
end DL
end
section
set_option Elab.async false
set_option linter.all false
set_option maxRecDepth 100000
namespace DL
open PySem L2 Evl PySem.Spec PyProof.Rows LamX

/-- what is known of the law's promise at the head's heap h: ts, the tables: code object, table, the lambdas' name -/
def LawD (prog : Program) (w : World) (K : PySem.W.Frag) (k n : Nat) (law x : Str) (m : List Sl → R (D × List Sl)) (mg : Str → Option Value) (h : Heap) : Prop :=
  ∃ ts : List (Addr × Addr × Str), (∀ p ∈ ts, h.get? p.2.1 = some { cls := .none, data := .fields #[] }) ∧ (∀ p ∈ ts, K.lookup p.2.1 = none) ∧ (∀ p ∈ ts, PySem.W.CodeHd h p.1 p.2.1) ∧
    ∃ (f : Addr) (fd : FuncData), mg law = some (.ref f) ∧ (∀ (s : Shared) (u : Value), BindsTo s fd ⟨[u], []⟩ [(x, u)]) ∧
      ∀ (base : Heap), K.In base → base.Ns mainGlobals mg → (∀ p ∈ ts, TabB base mg p.1 p.2.1) → FnOk prog w K mg base (L2.CX prog w) k f fd [x] (spD K mg (ts.map fun p => (p.2.1, p.2.2)) [] 1 m)
theorem walk_D {l : PySem.W.OpenLaw} {n k : Nat} {q : Program} {loose : List Str} {XP : (Str → Option Value) → Heap → Prop} {YP : World → Heap → Prop} {d : DefRec} {K : Params → PySem.W.Frag} {x : Str} {m : List Sl → R (D × List Sl)}
    (hn : l.most = some n) (hn2 : n ≤ sizeLine) (hdf : d.params.defaults = []) (hr : Room k callerA) (hY : ∀ (w : World) (h : Heap), YP w h → (K w.params).In h) (hm : Says n m)
    (F : ∀ (w : World) (mg : Str → Option Value) (h : Heap), YP w h → (K w.params).In h → h.Ns mainGlobals mg →
      (∀ (x : Str) (dd : DefRec) (c P : Addr), (recsOf q).find? (fun e => e.name == x) = some dd → PySem.W.tabIn (K w.params) x = some (c, P) → PySem.W.CodeHd h c P ∧ h.get? P = some { cls := .none, data := .fields #[] }) → LawD l.prog w (K w.params) k n d.name x m mg h) :
    PySem.W.WalkO q loose XP YP l.row.toRowW d [] (fun f vs => PySem.call f vs) := by
  refine Att.attach_callB hn hdf fun w s₀ s₁ mg mb fa o pm cd doc a vs ns G Y ho hd hcd hmg hobj hints hlen hbits hg => ?_
  have KX := hY w _ Y
  obtain ⟨ts, h1, h2, h3, f, fd, hf, bind, hF⟩ := F w mg _ Y KX G.T.g fun x dd c P e1 e2 => PySem.W.tab_of G.T KX e1 e2
  have mem : ∀ {C : Addr × Addr → Prop}, (∀ p ∈ ts, C (p.1, p.2.1)) → ∀ p ∈ ts.map fun p => (p.1, p.2.1), C p := fun {C} h p hp => by
    obtain ⟨z, hz, rfl⟩ := List.mem_map.mp hp
    exact h z hz
  have back : ∀ {C : Addr × Addr → Prop}, (∀ p ∈ ts.map (fun p => (p.1, p.2.1)), C p) → ∀ p ∈ ts, C (p.1, p.2.1) := fun {C} h p hp => h _ (List.mem_map.mpr ⟨p, hp, rfl⟩)
  rw [hmg] at hf
  cases hf
  exact law_callTs KX G.T.g G.T.b G.T.builtins G.T.nolimit hg (mem (C := fun p => s₁.heap.get? p.2 = some { cls := .none, data := .fields #[] }) h1) (mem (C := fun p => (K w.params).lookup p.2 = none) h2) (mem (C := fun p => PySem.W.CodeHd s₁.heap p.1 p.2) h3) G.T.bmain hobj hints (Nat.le_trans hlen hn2) hr
    (fun base b1 b2 b3 => hF base b1 b2 (back (C := fun p => TabB base mg p.1 p.2) b3)) bind
    (fun H hH hS => law_sp hm hlen (fun p hp => by
      obtain ⟨z, hz, rfl⟩ := List.mem_map.mp hp
      exact back (C := fun p => H p.2 = some (.tbl #[])) hH z hz) (fun p hp => by
      obtain ⟨z, hz, rfl⟩ := List.mem_map.mp hp
      exact h2 z hz) hS) fun H e s' h => cx_no h
/-- the law's own def -/
theorem fn_law {P : Program} {w : World} {K : PySem.W.Frag} {mg : Str → Option Value} {base : Heap} {x : Str} {st : Stmt} {f : Addr} {fd : FuncData} {N ps : List Str} {k : Nat} {T : List (Addr × Str)} {ms : List Nat} {h : Ga → R (Fl × Ga)} (F : L2.Fun K x x st f fd) (S : FnScope N ps (defScope st))
    (hbody : ∀ (cdv : Value) (A : Around) (outer : List Env) (s : Shared) (H : Hp) (E : XK) (P0 : Hp) (σ0 : L2.St), Bo (cxOf (L2.CX P w) P w K mg base N x (defScope st) f cdv A outer s H E) (fun cls d _ H' => E cls d H') k →
      PassesOwn (model P w) (A.deeper (envOfC x (defScope st) s.heap.objs.size f cdv)) (envOfC x (defScope st) s.heap.objs.size f cdv) (cxOf (L2.CX P w) P w K mg base N x (defScope st) f cdv A outer s H E).xe →
      EvSs (cxOf (L2.CX P w) P w K mg base N x (defScope st) f cdv A outer s H E) (fun cls d _ H' => E cls d H') ⟨H, P0, σ0, ms, T⟩ (defBody st) h) :
    FnOk P w K mg base (L2.CX P w) (k + 1) f fd ps (spD K mg T ms ps.length (mDef ps.length (N.length - ps.length) h)) :=
  fn_D F S fun cdv A outer s H E P0 σ0 B => hbody cdv A outer s H E P0 σ0 B (passes_of (X := cxOf (L2.CX P w) P w K mg base N x (defScope st) f cdv A outer s H E) rfl)
end DL
namespace DL
open PySem L2
theorem k_str {K : PySem.W.Frag} {h : Heap} {mg : Str → Option Value} (X : K.In h) (G : h.Ns mainGlobals mg) {x s : Str} {l : List Nat} {t : Tok} (a : PySem.W.nsIn K mainGlobals x = some (some (.str s t))) (e : s = strV l) : ∃ t, mg x = some (.str (strV l) t) := ⟨t, by rw [← e]; exact PySem.W.mg_of X G a⟩
theorem k_int {K : PySem.W.Frag} {h : Heap} {mg : Str → Option Value} (X : K.In h) (G : h.Ns mainGlobals mg) {x : Str} {i : Int} {t : Tok} (a : PySem.W.nsIn K mainGlobals x = some (some (.int i t))) : ∃ t, mg x = some (.int i t) := ⟨t, PySem.W.mg_of X G a⟩
/-- the classes, pair by pair -/
theorem exm_of {K : PySem.W.Frag} {mg : Str → Option Value} {names : List (Str × List Nat)} {l : List (Str × Addr)} (hm : ∀ p ∈ l, mg p.1 = some (.ref p.2)) (hx : (l.all fun p => l.all fun q => PySem.W.exmOne K (.ref p.2) (.ref q.2) == some (decide (p.1 = q.1))) = true) (hl : l.map (·.1) = names.map (·.1)) : ExM K mg names := fun c hc e he cls C mc me => by
  rw [← hl] at hc he
  obtain ⟨p, hp, rfl⟩ := List.mem_map.mp hc
  obtain ⟨q, hq, rfl⟩ := List.mem_map.mp he
  rw [hm p hp] at mc
  rw [hm q hq] at me
  cases mc; cases me
  have := List.all_eq_true.mp (List.all_eq_true.mp hx p hp) q hq
  simpa using this
theorem fun_binds1 {K : PySem.W.Frag} {x p : Str} {st : Stmt} {f : Addr} {fd : FuncData} (F : L2.Fun K x x st f fd)
    (h : ∀ (kV doc pm : Value) (an : Option Addr) (cdv ct u : Value), bindArgs (PySem.W.fnOf x x (defArgs st) (defBody st) (defScope st) .none kV doc pm an cdv ct) ⟨[u], []⟩ = pure [(p, u)]) (s : Shared) (u : Value) : BindsTo s fd ⟨[u], []⟩ [(p, u)] := by
  obtain ⟨oc, od, kV, doc, pm, an, cdv, ct, osl, rfl, lk, hcd⟩ := F.ex
  exact .of_eq (h kV doc pm an cdv ct u)
end DL
end
section
set_option Elab.async false
set_option linter.all false
set_option maxRecDepth 100000
namespace DL
open PySem L2 Evl PySem.Spec PyProof.Rows LamX

/-! ### defs that hand on a new object -/
/-- behind a body that returns an object of its own -/
def PostSF (X : Cx) (W : WX) (En : Ent) (P : Hp) (Q : VK) : R (D × Ga) → Prop
  | .ok (d, γ') => ∀ p σ' H' P', Sat X.K X.mg En P' σ' H' γ' → Ex P P' → En.H0 p = none → P' p = none → (∀ i ∈ En.ms, En.σ0[i]? ≠ some (some (.ref p))) → Own X.K X.mg P' H' d p → Q (.ref p) H'
  | .exc c => ∀ σ' H' cls, (∀ a o, En.H0 a = some o → ¬ En.M a → H' a = some o) → LamX.Tabs En.T H' → X.mg c = some cls → W cls none σ' H'
  | .no => False
theorem PostSF.later {X : Cx} {W : WX} {En : Ent} {P P1 : Hp} {Q : VK} (e : Ex P P1) : ∀ {r : R (D × Ga)}, PostSF X W En P Q r → PostSF X W En P1 Q r
  | .ok (d, γ'), q => fun p σ' H' P' S x => q p σ' H' P' S (e.trans x)
  | .exc c, q => q
  | .no, q => q
def EvSF (X : Cx) (W : WX) (En : Ent) (sts : List Stmt) (h : Ga → R (D × Ga)) : Prop :=
  ∃ t, PSs X sts t ∧ ∀ σ H P γ D, Sat X.K X.mg En P σ H γ → PostSF X W En P D.rt (h γ) → t D σ H
section
variable {X : Cx} {W : WX} {En : Ent} {e : Expr} {st : Stmt} {sts : List Stmt} {pos p1 : Pos} {h1 : Ga → R (Fl × Ga)} {h2 fd : Ga → R (D × Ga)}
/-- what stands at the entry is no new object -/
theorem Sat.new_arg {P H : Hp} {σ : L2.St} {γ : Ga} (S : Sat X.K X.mg En P σ H γ) {p : Addr} (h0 : En.H0 p = none) (ha : ∀ i ∈ En.ms, ∀ a, En.σ0[i]? = some (some (.ref a)) → En.H0 a ≠ none) : ∀ i ∈ En.ms, En.σ0[i]? ≠ some (some (.ref p)) := fun i hi z => ha i hi p z h0
def fCons (h1 : Ga → R (Fl × Ga)) (h2 : Ga → R (D × Ga)) : Ga → R (D × Ga) := fun γ => h1 γ >>= fun p => match p.1 with
  | .next => h2 p.2
  | _ => .no
theorem esf_cons (a : EvS X W En st h1) (b : EvSF X W En sts h2) : EvSF X W En (st :: sts) (fCons h1 h2) := by
  obtain ⟨t, p, a⟩ := a
  obtain ⟨u, p', b⟩ := b
  refine ⟨_, pss_cons p p', fun σ H P γ D S q => a σ H P γ _ S ?_⟩
  unfold fCons at q
  cases e : h1 γ with
  | no => rw [e] at q; exact q
  | exc c => rw [e] at q; exact q
  | ok r =>
    obtain ⟨fl, γ'⟩ := r
    rw [e, R.ok_bind] at q
    cases fl with
    | next => exact fun σ' H' P' S' x => b σ' H' P' γ' D S' (q.later x)
    | brk => exact q.elim
    | cont => exact q.elim
    | ret d => exact q.elim
/-- what may be changed at the entry stands there -/
def EntOk (En : Ent) : Prop := ∀ i ∈ En.ms, ∀ a, En.σ0[i]? = some (some (.ref a)) → En.H0 a ≠ none
theorem esf_ret (hE : EntOk En) (he : EvF X W En e fd) : EvSF X W En [.Return (some e) pos] fd := by
  obtain ⟨t, p, he⟩ := he
  refine ⟨_, pss_one (ps_ret p), fun σ H P γ D S q => he σ H P γ _ S ?_⟩
  cases ea : fd γ with
  | no => rw [ea] at q; exact q
  | exc c =>
    rw [ea] at q
    exact fun H' cls kp tb m => q σ H' cls (S.keeps kp) tb m
  | ok r =>
    obtain ⟨d, γ'⟩ := r
    rw [ea] at q
    rintro v H2 P2 S2 T2 ⟨p, rfl, n, n', o⟩
    have h0 : En.H0 p = none := Classical.byContradiction fun z => S.dom p z n
    exact q p σ H2 P2 S2 T2.ph h0 n' (fun i hi z => hE i hi p z h0) o
/-- return name, its object one's own -/
def fOwn (i : Nat) : Ga → R (D × Ga) := fun γ => muAt γ i >>= fun d => .ok (d, γ)
theorem esf_own {i : Nat} {x : Str} (hE : EntOk En) (hi : i ∉ En.ms) (hp : PE X (.Name x p1) (tVar i)) : EvSF X W En [.Return (some (.Name x p1)) pos] (fOwn i) := by
  refine ⟨_, pss_one (ps_ret hp), fun σ H P γ D S q => ?_⟩
  unfold fOwn at q
  rcases muAt_cases γ i with ⟨d, e1, e2⟩ | e1
  · rw [e1, R.ok_bind] at q
    obtain ⟨a, g1, g2, g3, g4⟩ := S.mu i d e2
    have h0 : En.H0 a = none := by
      rcases g4 with ⟨z, _⟩ | ⟨_, z⟩
      · exact absurd z hi
      · exact z
    exact ⟨_, g1, q a σ H P S (Ex.refl P) h0 g2 (fun i hi z => hE i hi a z h0) g3⟩
  · rw [e1] at q; exact q.elim
end
def PostDF (K : PySem.W.Frag) (mg : Str → Option Value) (En : Ent) (n : Nat) (P : Hp) (Q : VK) (E : XK) : R (D × List Sl) → Prop
  | .ok (d, outs) => ∀ p σ' H' P' γ', Sat K mg En P' σ' H' γ' → Ex P P' → γ'.take n = outs → En.H0 p = none → P' p = none → Own K mg P' H' d p → Q (.ref p) H'
  | .exc c => ∀ H' cls, (∀ a o, En.H0 a = some o → ¬ En.M a → H' a = some o) → LamX.Tabs En.T H' → mg c = some cls → E cls none H'
  | .no => False
def spDF (K : PySem.W.Frag) (mg : Str → Option Value) (T : List (Addr × Str)) (n : Nat) (m : List Sl → R (D × List Sl)) : Sp := fun vs H Q E => vs.length = n ∧
  ∃ P γ, Sat K mg ⟨H, P, vs.map some, [], T⟩ P (vs.map some) H γ ∧ PostDF K mg ⟨H, P, vs.map some, [], T⟩ n P Q E (m γ)
def mDefF (n k : Nat) (h : Ga → R (D × Ga)) : List Sl → R (D × List Sl) := fun as => h (as ++ List.replicate k .un) >>= fun p => .ok (p.1, p.2.take n)
structure ClF (P : Program) (w : World) (K : PySem.W.Frag) (mg : Str → Option Value) (base : Heap) (T : List (Addr × Str)) (x : Str) (j : Nat) (n : Nat) (m : List Sl → R (D × List Sl)) : Prop where
  ex : ∃ (f : Addr) (fd : FuncData) (ps : List Str), FnOk P w K mg base (L2.CX P w) j f fd ps (spDF K mg T n m) ∧ mg x = some (.ref f) ∧ PySem.W.keepIn K (.ref f) = true ∧ Binds K fd ps []
theorem cl_DF {P : Program} {w : World} {K : PySem.W.Frag} {mg : Str → Option Value} {base : Heap} {x : Str} {st : Stmt} {N ps : List Str} {k : Nat} {T : List (Addr × Str)} {h : Ga → R (D × Ga)} (D : Df K mg x st) (S : FnScope N ps (defScope st))
    (hb : ∀ (kV doc pm : Value) (an : Option Addr) (cdv ct : Value) (us : List Value), us.length = ps.length → bindArgs (PySem.W.fnOf x x (defArgs st) (defBody st) (defScope st) .none kV doc pm an cdv ct) ⟨us, []⟩ = pure (ps.zip us))
    (hbody : ∀ (f : Addr) (cdv : Value) (A : Around) (outer : List Env) (s : Shared) (H : Hp) (E : XK) (P0 : Hp) (σ0 : L2.St), Bo (cxOf (L2.CX P w) P w K mg base N x (defScope st) f cdv A outer s H E) (fun cls d _ H' => E cls d H') k →
      PassesOwn (model P w) (A.deeper (envOfC x (defScope st) s.heap.objs.size f cdv)) (envOfC x (defScope st) s.heap.objs.size f cdv) (cxOf (L2.CX P w) P w K mg base N x (defScope st) f cdv A outer s H E).xe →
      EvSF (cxOf (L2.CX P w) P w K mg base N x (defScope st) f cdv A outer s H E) (fun cls d _ H' => E cls d H') ⟨H, P0, σ0, [], T⟩ (defBody st) h) :
    ClF P w K mg base T x (k + 1) ps.length (mDefF ps.length (N.length - ps.length) h) := by
  obtain ⟨f, fd, hm, F⟩ := D.ex
  refine ⟨f, fd, ps, F.okX S (fun vs H Q E q => q.1) fun cdv A outer s H vs Q E hr ⟨hl, P0, γ, S0, q⟩ => ?_, hm, F.kp, F.binds hb⟩
  obtain ⟨t, pt, ht⟩ := hbody f cdv A outer s H E P0 (vs.map some) ⟨rfl, S.nd, takes_of rfl rfl rfl rfl, hr⟩ (passes_of (X := cxOf (L2.CX P w) P w K mg base N x (defScope st) f cdv A outer s H E) rfl)
  refine ⟨t, pt, ht _ H P0 (γ ++ List.replicate (N.length - ps.length) .un) _ (by
    have := S0.start (N.length - ps.length)
    unfold L2.start
    rw [hl]
    exact this) ?_⟩
  unfold mDefF at q
  cases e : h (γ ++ List.replicate (N.length - ps.length) .un) with
  | no => rw [e] at q; exact q.elim
  | exc c => rw [e] at q; exact fun σ' H' cls kp tb m => q H' cls kp tb m
  | ok r =>
    obtain ⟨d, γ'⟩ := r
    rw [e, R.ok_bind] at q
    exact fun p σ' H' P' S' x h0 n' _ o => q p σ' H' P' γ' S' x rfl h0 n' o
theorem ent_nil {H P : Hp} {σ : L2.St} {T : List (Addr × Str)} : EntOk ⟨H, P, σ, [], T⟩ := fun i hi => by cases hi
/-- its calls: no object of one's own is handed over -/
def fCallD (n : Nat) (m : List Sl → R (D × List Sl)) (g : Ga → R (List Res × Ga)) : Ga → R (D × Ga) := fun γ => g γ >>= fun p => vals p.1 >>= fun ds => if ds.length = n then m (ds.map .pu) >>= fun r => .ok (r.1, p.2) else .no
section
variable {X : Cx} {W : WX} {En : Ent} {e : Expr} {es : List Expr} {p pos : Pos} {g : Ga → R (List Res × Ga)} {x : Str} {k n : Nat} {m : List Sl → R (D × List Sl)}
theorem vals_arg {γ : Ga} : ∀ {rs : List Res} {ds : List D}, vals rs = .ok ds → argSl γ rs = .ok (ds.map .pu) ∧ cellPos 0 rs = [] ∧ cellIx rs = [] ∧ rs.length = ds.length ∧ ∀ k, cellPos k rs = []
  | [], _, h => by cases h; exact ⟨rfl, rfl, rfl, rfl, fun _ => rfl⟩
  | .val d :: rs, ds, h => by
    unfold vals at h
    cases e : vals rs with
    | ok r =>
      rw [e] at h; cases h
      obtain ⟨h1, h2, h3, h4, h5⟩ := vals_arg (γ := γ) e
      exact ⟨by unfold argSl; rw [h1]; rfl, h5 1, h3, by simp [h4], fun k => h5 (k + 1)⟩
    | exc c => rw [e] at h; cases h
    | no => rw [e] at h; cases h
  | .cell i :: rs, ds, h => by cases h
theorem ef_cl {j : Nat} (c : ClF X.prog X.w X.K X.mg X.base En.T x j n m) (hr : Room k X.A) (hj : j ≤ k) (tk : Takes X W) (hg : Gl X x)
    (ha : EvA X W En (e :: es) g) (hdb : (x == ("__debug__" : Str)) = false := by decide) (he : starEach (e :: es) X.env = (false, eval e X.env) :: starEach es X.env := by rfl) (hpl : (backTo pos (starEach es X.env)).any (·.1) = false := by rfl) :
    EvF X W En (.Call (.Name x p) (e :: es) [] pos) (fCallD n m g) := by
  obtain ⟨f, fd, ps, F, hm, kp, hb⟩ := c.ex
  obtain ⟨t, pa, ha⟩ := ha
  refine ⟨_, pe_callS F (hr.mono hj) hg hm kp hb (passAt tk) pa hdb he hpl, fun σ H P γ Q S q => ha σ H P γ _ S ?_⟩
  unfold fCallD at q
  cases ea : g γ with
  | no => rw [ea] at q; exact q
  | exc c => rw [ea] at q; exact q
  | ok r0 =>
    obtain ⟨rs, γ1⟩ := r0
    rw [ea, R.ok_bind] at q
    intro vs H1 P1 S1 T1 r
    have q := PostG.later T1 (fun P' H' σ a b => hrepF H H1 P' H' σ a b T1.dom) q
    simp only at q
    rcases vals_cases rs with ⟨ds, e1⟩ | e1
    · rw [e1, R.ok_bind] at q
      obtain ⟨a1, a2, a3, a4, _⟩ := vals_arg (γ := γ1) e1
      split at q
      · rename_i hl
        have SE := S1.entry a1 r (by rw [a3]; exact List.nodup_nil)
        rw [a2] at SE
        refine ⟨by rw [← r.len, a4]; exact hl, P1, _, SE, ?_⟩
        cases e2 : m (ds.map .pu) with
        | no => rw [e2] at q; exact q.elim
        | exc c =>
          rw [e2] at q
          exact fun H' cls kp tb hm => q H' cls (fun a o h nm => kp a o h fun z => nm (entry_mu (H := H1) (P := P1) (mg := X.mg) a1 r (by rw [a2]; exact z))) tb hm
        | ok r2 =>
          obtain ⟨d, outs⟩ := r2
          rw [e2, R.ok_bind] at q
          intro p σ' H' P' γ' S' x ho h0 n' ow
          have hb : ∀ {rs : List Res}, cellIx rs = [] → backSl rs (List.replicate rs.length .un) γ1 = .ok γ1 := by
            intro rs
            induction rs with
            | nil => intro _; rfl
            | cons r rs ih =>
              intro h1
              cases r with
              | cell i => cases h1
              | val d => exact ih h1
          obtain ⟨S3, T3⟩ := S1.back (outs := List.replicate rs.length .un) (γ' := γ1) a1 r (by rw [a3]; exact List.nodup_nil) (by rw [a2]; exact S') (fun j d e => by
            rw [List.getElem?_replicate] at e
            split at e <;> cases e) (hb a3)
          exact q _ H' P' S3 T3 ⟨p, rfl, h0, n', ow⟩
      · exact q.elim
    · rw [e1] at q; exact q.elim
end
end DL
end
section
set_option linter.all false
set_option maxRecDepth 100000
namespace DL
open PySem

/-! ### evaluating mirrors whose slots are partly letters -/
theorem sCons_next {h1 h2 : Ga → R (Fl × Ga)} {γ γ' : Ga} (e : h1 γ = .ok (.next, γ')) : sCons h1 h2 γ = h2 γ' := by
  unfold sCons; rw [e]; rfl
theorem vals_map : ∀ {ds : List D}, vals (ds.map Res.val) = .ok ds
  | [] => rfl
  | d :: ds => by unfold vals; simp only [List.map_cons]; rw [vals_map (ds := ds)]; rfl
theorem argSl_map {γ : Ga} : ∀ {ds : List D}, argSl γ (ds.map Res.val) = .ok (ds.map .pu)
  | [] => rfl
  | d :: ds => by unfold argSl; simp only [List.map_cons]; rw [argSl_map (ds := ds)]; rfl
theorem cell_map : ∀ {ds : List D} {k : Nat}, cellPos k (ds.map Res.val) = [] ∧ cellIx (ds.map Res.val) = []
  | [], _ => ⟨rfl, rfl⟩
  | d :: ds, k => by
    obtain ⟨h1, h2⟩ := cell_map (ds := ds) (k := k + 1)
    exact ⟨h1, h2⟩
theorem eCallD_exc {n : Nat} {m : List Sl → R (D × List Sl)} {g : Ga → R (List Res × Ga)} {γ γ' : Ga} {c : Str} (ds : List D) (ha : g γ = .ok (ds.map Res.val, γ')) (hl : ds.length = n) (hm : m (ds.map .pu) = .exc c) : eCallD n [] m g γ = .exc c := by
  have h1 : (cellIx (ds.map Res.val)).Nodup := by rw [(cell_map (ds := ds) (k := 0)).2]; exact List.nodup_nil
  have h2 : cellPos 0 (ds.map Res.val) = [] := (cell_map (ds := ds) (k := 0)).1
  unfold eCallD
  rw [ha, R.ok_bind]
  simp only [argSl_map, R.ok_bind, List.length_map]
  rw [if_pos ⟨hl, h2, h1⟩, hm]
  rfl
theorem eCallD_val {n : Nat} {m : List Sl → R (D × List Sl)} {g : Ga → R (List Res × Ga)} {γ γ' : Ga} {d : D} {outs : List Sl} (ds : List D) (ha : g γ = .ok (ds.map Res.val, γ')) (hl : ds.length = n) (hm : m (ds.map .pu) = .ok (d, outs)) (ho : ds.length ≤ outs.length) : eCallD n [] m g γ = .ok (.val d, γ') := by
  have h1 : (cellIx (ds.map Res.val)).Nodup := by rw [(cell_map (ds := ds) (k := 0)).2]; exact List.nodup_nil
  have h2 : cellPos 0 (ds.map Res.val) = [] := (cell_map (ds := ds) (k := 0)).1
  have hb : ∀ {ds : List D} {os : List Sl}, ds.length ≤ os.length → backSl (ds.map Res.val) os γ' = .ok γ' := by
    intro ds
    induction ds with
    | nil => intro os _; rfl
    | cons d ds ih =>
      intro os h
      cases os with
      | nil => simp at h
      | cons o os => exact ih (by simpa using h)
  unfold eCallD
  rw [ha, R.ok_bind]
  simp only [argSl_map, R.ok_bind, List.length_map]
  rw [if_pos ⟨hl, h2, h1⟩, hm, R.ok_bind]
  simp only
  rw [hb ho]
  rfl
theorem eMet6_exc {told : List Nat} {l : List (Str × List Nat)} {fb : Ga → R (Res × Ga)} {γ : Ga} {c : Str} {r : List Nat} (h : fb (pureG γ) = .exc c) (hl : l.lookup c = some r) : eMet6 told l fb γ = .ok (.val (.str r), γ) := by
  unfold eMet6
  rw [h]
  simp only [hl]
/-- told.append(x) -/
theorem append_val {i : Nat} {f : Ga → R (Res × Ga)} {γ : Ga} {ts : List D} {d : D} (hi : γ[i]? = some (.mu (.lst ts))) (hf : f γ = .ok (.val d, γ)) (hz : ts.length < sizeLine) : sExpr (eMutV "list" i mAppend (aCons f aNil)) γ = .ok (.next, γ.set i (.mu (.lst (ts ++ [d])))) := by
  have hm : muAt γ i = .ok (.lst ts) := by unfold muAt; rw [hi]
  unfold sExpr eMutV
  rw [hm, R.ok_bind]
  simp only [D.ty, if_true]
  unfold aCons
  rw [hf]
  simp only [R.ok_bind, aNil, hm, vals, mAppend, hz, if_true, ofO]
end DL
end
section
set_option Elab.async false
set_option linter.all false
set_option maxRecDepth 100000
namespace DL
open PySem L2 Evl PySem.Spec PyProof.Rows LamX

/-! ### a, b[c] = e1, e2: a tuple is made, then the targets from the left -/
section
variable {X : Cx} {W : WX} {En : Ent} {e a b c tg : Expr} {es tgs : List Expr} {st : Stmt} {pos p1 p2 p3 : Pos} {f fa fb fc : Ga → R (Res × Ga)} {gp : Ga → R (List Sl × Ga)}
/-- what is known behind a target -/
def PostT (X : Cx) (En : Ent) (Hs P : Hp) (ss : List Sl) (vs : List V) (Q : L2.St → Hp → Prop) : R Ga → Prop
  | .ok γ' => ∀ σ' H' P' qs, Sat X.K X.mg En P' σ' H' γ' → Ex P P' → ParRep X.K X.mg Hs P' H' ss vs qs → (∀ p ∈ qs, ¬ MuAt En.T σ' γ' p ∧ En.H0 p = none) → Q σ' H'
  | _ => False
def EvU (X : Cx) (En : Ent) (tg : Expr) (b : Sl → Ga → R Ga) : Prop :=
  ∃ t : TG, PG X tg t ∧ ∀ s ss v vs ps Hs σ H P γ Q, Sat X.K X.mg En P σ H γ → ParRep X.K X.mg Hs P H (s :: ss) (v :: vs) ps → (∀ p ∈ ps, ¬ MuAt En.T σ γ p ∧ En.H0 p = none) → PostT X En Hs P ss vs Q (b s γ) → t v σ H Q
def EvUs (X : Cx) (En : Ent) (tgs : List Expr) (b : List Sl → Ga → R Ga) : Prop :=
  ∃ t : TGs, PGs X tgs t ∧ ∀ ss vs ps Hs σ H P γ Q, Sat X.K X.mg En P σ H γ → ParRep X.K X.mg Hs P H ss vs ps → (∀ p ∈ ps, ¬ MuAt En.T σ γ p ∧ En.H0 p = none) → PostT X En Hs P [] [] Q (b ss γ) → t vs σ H Q
def uName (i : Nat) : Sl → Ga → R Ga := fun s γ => .ok (γ.set i s)
theorem eu_name {i : Nat} (hp : PG X tg (gName i)) (hi : i ∉ En.ms) : EvU X En tg (uName i) :=
  ⟨_, hp, fun s ss v vs ps Hs σ H P γ Q S r hd q => by
    obtain ⟨S', qs, r', hd'⟩ := S.putU hi r hd
    exact q _ _ _ qs S' (Ex.refl P) r' hd'⟩
def uNil : List Sl → Ga → R Ga := fun ss γ => match ss with
  | [] => .ok γ
  | _ => .no
def uCons (b : Sl → Ga → R Ga) (bs : List Sl → Ga → R Ga) : List Sl → Ga → R Ga := fun ss γ => match ss with
  | s :: ss => b s γ >>= fun γ1 => bs ss γ1
  | _ => .no
theorem eus_nil : EvUs X En [] uNil := ⟨_, pgs_nil, fun ss vs ps Hs σ H P γ Q S r hd q => by
  unfold uNil at q
  cases r with
  | nil => exact ⟨rfl, q σ H P [] S (Ex.refl P) .nil (fun p h => by cases h)⟩
  | pu h r => exact q.elim
  | mu h1 h2 h3 h4 r => exact q.elim⟩
theorem PostT.later {Hs P P1 : Hp} {ss : List Sl} {vs : List V} {Q : L2.St → Hp → Prop} (e : Ex P P1) : ∀ {r : R Ga}, PostT X En Hs P ss vs Q r → PostT X En Hs P1 ss vs Q r
  | .ok γ, q => fun σ' H' P' qs S x => q σ' H' P' qs S (e.trans x)
  | .exc c, q => q
  | .no, q => q
theorem eus_cons {u : Sl → Ga → R Ga} {us : List Sl → Ga → R Ga} (h : EvU X En tg u) (hs : EvUs X En tgs us) (he : (assignEach (tg :: tgs) X.env).map (·.2) = assign tg X.env :: (assignEach tgs X.env).map (·.2) := by rfl) : EvUs X En (tg :: tgs) (uCons u us) := by
  obtain ⟨t, p, h⟩ := h
  obtain ⟨t2, p', hs⟩ := hs
  refine ⟨_, pgs_cons p p' he, fun ss vs ps Hs σ H P γ Q S r hd q => ?_⟩
  have go : ∀ s ss v vs, ParRep X.K X.mg Hs P H (s :: ss) (v :: vs) ps → PostT X En Hs P [] [] Q (u s γ >>= fun γ1 => us ss γ1) → t v σ H fun σ1 H1 => t2 vs σ1 H1 Q := fun s ss v vs r q => by
    refine h s ss v vs ps Hs σ H P γ _ S r hd ?_
    cases e1 : u s γ with
    | no => rw [e1] at q; exact q.elim
    | exc c => rw [e1] at q; exact q.elim
    | ok γ1 =>
      rw [e1, R.ok_bind] at q
      exact fun σ' H' P' qs S' x r' hd' => hs ss vs qs Hs σ' H' P' γ1 Q S' r' hd' (q.later x)
  cases r with
  | nil => exact q.elim
  | pu h r => exact ⟨_, _, rfl, go _ _ _ _ (.pu h r) q⟩
  | mu h1 h2 h3 h4 r => exact ⟨_, _, rfl, go _ _ _ _ (.mu h1 h2 h3 h4 r) q⟩
/-- x[y], both names -/
def uSub (i j : Nat) : Sl → Ga → R Ga := fun s γ => match s, γ[j]? with
  | .pu d, some (.pu k) => muAt γ i >>= fun a => ofO (dStore a k d) >>= fun a' => .ok (γ.set i (.mu a'))
  | _, _ => .no
theorem ParRep.upd {K : PySem.W.Frag} {mg : Str → Option Value} {Hs P H : Hp} {l : Addr} {o : HO} : ∀ {ss : List Sl} {vs : List V} {ps : List Addr}, ParRep K mg Hs P H ss vs ps → l ∉ ps → ParRep K mg Hs P (upd H l o) ss vs ps
  | _, _, _, .nil, _ => .nil
  | _, _, _, .pu h r, n => .pu h (r.upd n)
  | _, _, _, .mu h1 h2 h3 h4 r, n => .mu h1 h2 (h3.mono (Ex.refl P) fun o e => by
      rw [upd_ne (fun z => n (by rw [← z]; exact List.mem_cons_self))]; exact e) h4 (r.upd fun z => n (List.mem_cons_of_mem _ z))
theorem eu_sub {i j : Nat} {x y : Str} (hu : X.A.units + 64 < cLine) (ho : PE X (.Name x p1) (tVar i)) (hi : PE X (.Name y p2) (tVar j))
    (ha : ∀ v, assign (.Subscript (.Name x p1) (.Name y p2) p3) X.env v = (do
      let ov ← holding [v] (eval (.Name x p1) X.env)
      let iv ← holding [v, ov] (eval (.Name y p2) X.env)
      standAt p3
      holding [v, ov, iv] (setItem ov iv v)
      release [v, ov, iv] []) := by intro _; rfl) : EvU X En (.Subscript (.Name x p1) (.Name y p2) p3) (uSub i j) := by
  refine ⟨_, pg_sub ho hi (set_all (hu1 hu)) ha, fun s ss v vs ps Hs σ H P γ Q S r hd q => ?_⟩
  unfold uSub at q
  split at q
  · rename_i d k hk
    cases r with
    | pu rv r =>
      rcases muAt_cases γ i with ⟨a, e1, e2⟩ | e1
      · rw [e1, R.ok_bind] at q
        obtain ⟨l, g1, g2, g3, g4⟩ := S.mu i a e2
        obtain ⟨kv, k1, k2⟩ := S.pu j k hk
        refine ⟨_, g1, _, k1, ?_⟩
        rcases ofO_cases (dStore a k d) with ⟨new, e4, e5⟩ | e4
        · rw [e5, R.ok_bind] at q
          refine store_go S.sub g3 (Rep.w S.sub k2) rv e4 fun o ow => ?_
          obtain ⟨S', T'⟩ := S.mut e2 g1 ow
          refine q _ _ _ ps S' (Ex.refl P) (r.upd fun z => (hd l z).1 (.inl ⟨i, a, e2, g1⟩)) fun p hp => ⟨fun z => (hd p hp).1 (T'.mus p z), (hd p hp).2⟩
        · rw [e4] at q; exact q.elim
      · rw [e1] at q; exact q.elim
  · exact q.elim
def sParT (n : Nat) (us : List Sl → Ga → R Ga) (g : Ga → R (List Sl × Ga)) : Ga → R (Fl × Ga) := fun γ => g γ >>= fun p => if p.1.length = n ∧ n ≤ sizeLine then noX (us p.1 p.2) >>= fun γ' => .ok (.next, γ') else .no
theorem ParRep.len {K : PySem.W.Frag} {mg : Str → Option Value} {Hs P H : Hp} : ∀ {ss : List Sl} {vs : List V} {ps : List Addr}, ParRep K mg Hs P H ss vs ps → ss.length = vs.length
  | _, _, _, .nil => rfl
  | _, _, _, .pu _ r => congrArg (· + 1) r.len
  | _, _, _, .mu _ _ _ _ r => congrArg (· + 1) r.len
theorem ParRep.there {K : PySem.W.Frag} {mg : Str → Option Value} {Hs P H : Hp} : ∀ {ss : List Sl} {vs : List V} {ps : List Addr}, ParRep K mg Hs P H ss vs ps → ∀ p ∈ ps, H p ≠ none
  | _, _, _, .nil, _, h => by cases h
  | _, _, _, .pu _ r, p, h => r.there p h
  | _, _, _, .mu _ _ o _ r, p, h => (List.mem_cons.mp h).elim (fun z => by obtain ⟨u, hu, _⟩ := o.there; rw [z, hu]; simp) (r.there p)
theorem es_parT {us : List Sl → Ga → R Ga} {kt k2 n : Nat} {pt pt2 : Pos} (hc : X.calm = true) (ht : EvUs X En tgs us) (ha : EvP X W En es gp) (hn : (assignEach tgs X.env).length = n := by rfl)
    (hst : (assignEach tgs X.env).findIdx? (·.1) = none := by rfl)
    (hs : swapsWithSole [.Tuple tgs kt pt] (.Tuple es k2 pt2) pos.line X.env = pure false := by rfl) (hw : swappedStores [.Tuple tgs kt pt] (.Tuple es k2 pt2) X.env = pure none := by rfl)
    (h1 : (assignEach [.Tuple tgs kt pt] X.env).map (·.2) = [assign (.Tuple tgs kt pt) X.env] := by rfl) :
    EvS X W En (.Assign [.Tuple tgs kt pt] (.Tuple es k2 pt2) pos) (sParT n us gp) := by
  obtain ⟨t2, p', ht⟩ := ht
  obtain ⟨t, p, ha⟩ := ha
  refine ⟨_, ps_asg (pe_tup p) (pg_tup hc p' hn hst) hs hw h1, fun σ H P γ D S q => par_go (k := fun ss γ => if ss.length = n ∧ n ≤ sizeLine then noX (us ss γ) >>= fun γ' => .ok (.next, γ') else .no) (R' := fun xs H1 => xs.length ≤ sizeLine ∧ ∀ p, H1 p = none → gTup X.K n t2 (.ref p) σ (upd H1 p (.tup xs)) D.nx) ha S q fun P2 H2 γ2 ss vs ps S2 r q2 => ?_⟩
  obtain ⟨r, hd⟩ := r
  split at q2
  · rename_i hl
    refine ⟨by rw [← r.len, hl.1]; exact hl.2, fun a na => ?_⟩
    have g : Gr P2 H2 P2 (upd H2 a (.tup vs)) := Gr.up S2.sub (Ex.new na)
    have r2 := r.upd (l := a) (o := .tup vs) fun z => r.there a z na
    refine ⟨a, vs, rfl, .of upd_same, ?_, ht ss vs ps H σ _ P2 γ2 _ (S2.gr g) r2 hd ?_⟩
    · rw [← r.len]; exact hl.1
    · cases e1 : us ss γ2 with
      | no => rw [e1] at q2; exact q2.elim
      | exc c => rw [e1] at q2; exact q2.elim
      | ok γ1 =>
        rw [e1] at q2
        change PostS X W En P2 D (.ok (.next, γ1)) at q2
        exact fun σ' H' P' qs S' x _ _ => q2 σ' H' P' S' x
  · exact q2.elim
end
end DL
end
section
set_option Elab.async false
set_option linter.all false
set_option maxRecDepth 100000
namespace DL
open PySem L2 Evl PySem.Spec PyProof.Rows LamX

/-! ### methods of texts -/
def strsOf : List D → Option (List (List Nat))
  | [] => some []
  | .str s :: r => match strsOf r with
    | some ss => some (s :: ss)
    | none => none
  | _ => none
theorem strs_rep {K : PySem.W.Frag} {mg : Str → Option Value} {P : Hp} : ∀ {ds : List D} {vs : List V} {ss : List (List Nat)}, RepL K mg P ds vs → strsOf ds = some ss → vs = (ss.map strV).map V.str
  | _, _, _, .nil, e => by cases e; rfl
  | .str s :: ds, _, ss, .cons h r, e => by
    unfold strsOf at e
    cases e1 : strsOf ds with
    | none => rw [e1] at e; cases e
    | some ss' =>
      rw [e1] at e; cases e
      cases h
      rw [strs_rep r e1]; rfl
  | .non :: _, _, _, .cons _ _, e => by cases e
  | .bl _ :: _, _, _, .cons _ _, e => by cases e
  | .int _ :: _, _, _, .cons _ _, e => by cases e
  | .lst _ :: _, _, _, .cons _ _, e => by cases e
  | .tup _ :: _, _, _, .cons _ _, e => by cases e
  | .dct _ _ _ :: _, _, _, .cons _ _, e => by cases e
  | .fn _ :: _, _, _, .cons _ _, e => by cases e
  | .scr _ :: _, _, _, .cons _ _, e => by cases e
def joinSz (a : List Nat) (ss : List (List Nat)) : Nat := (ss.map (·.length)).sum + ss.length * a.length
def dJoin (a : D) (as : List D) : Option D := match a with
  | .str a => match as with
    | [.lst ds] => match strsOf ds with
      | some ss => if joinSz a ss ≤ 16777216 then some (.str (TL.joinL a ss)) else none
      | none => none
    | [.tup ds] => match strsOf ds with
      | some ss => if joinSz a ss ≤ 16777216 then some (.str (TL.joinL a ss)) else none
      | none => none
    | _ => none
  | _ => none
theorem joinL_len (a : List Nat) : ∀ ss : List (List Nat), (TL.joinL a ss).length ≤ joinSz a ss
  | [] => by simp [TL.joinL, joinSz]
  | [p] => by simp [TL.joinL, joinSz]
  | p :: q :: r => by
    have h := joinL_len a (q :: r)
    unfold joinSz at h ⊢
    simp only [TL.joinL, List.length_append, List.map_cons, List.sum_cons, List.length_cons] at h ⊢
    have : (r.length + 1 + 1) * a.length = (r.length + 1) * a.length + a.length := Nat.succ_mul _ _
    omega
section
variable {X : Cx} {W : WX} {En : Ent} {e b o : Expr} {es : List Expr} {pos p1 p2 p3 apos cpos : Pos} {f fa fb fo : Ga → R (Res × Ga)} {g : Ga → R (List Res × Ga)}
theorem join_size (a : List Nat) (ss : List (List Nat)) : (((ss.map strV).map (·.length)).sum + (ss.map strV).length * (strV a).length) = joinSz a ss := by
  unfold joinSz
  rw [List.length_map, len_strV, List.map_map]
  have : (ss.map ((fun x : Str => x.length) ∘ strV)) = ss.map (·.length) := List.map_congr_left fun s _ => len_strV s
  rw [this]
theorem ms_join : MetS X (fun x xs H Q => ∃ a p, ∃ ys : List Str, x = .str a ∧ xs = [.ref p] ∧ (SqL X.K H p (ys.map V.str) ∨ SqT X.K H p (ys.map V.str)) ∧
    (ys.map (·.length)).sum + ys.length * a.length ≤ 16777216 ∧ Q (.str (Txt.join a ys)) H) dJoin := by
  intro P H x xs a as d Q e h1 h2 hf q
  have fin : ∀ (s : List Nat) (ss : List (List Nat)), joinSz s ss ≤ 16777216 → d = .str (TL.joinL s ss) → Q (.str (Txt.join (strV s) (ss.map strV))) H := fun s ss hz hd => by
    have : Txt.join (strV s) (ss.map strV) = strV (TL.joinL s ss) := SX.join_S s ss
    rw [this]
    refine q _ _ _ (.here e) ?_
    rw [hd]
    exact .str _ (Nat.le_trans (joinL_len s ss) (by rw [sizeLine_eq]; exact hz))
  unfold dJoin at hf
  split at hf
  · rename_i a s
    cases h1
    split at hf
    · rename_i ds
      obtain ⟨v, rfl, r1⟩ := h2.one
      cases e1 : strsOf ds with
      | none => rw [e1] at hf; cases hf
      | some ss =>
        rw [e1] at hf
        simp only [Option.ite_none_right_eq_some, Option.some.injEq] at hf
        obtain ⟨hz, hd⟩ := hf
        cases r1 with
        | lst h r =>
          have ev := strs_rep r e1
          subst ev
          exact ⟨_, _, ss.map strV, rfl, rfl, .inl (.of h), by rw [join_size]; exact hz, fin _ _ hz hd.symm⟩
    · rename_i ds
      obtain ⟨v, rfl, r1⟩ := h2.one
      cases e1 : strsOf ds with
      | none => rw [e1] at hf; cases hf
      | some ss =>
        rw [e1] at hf
        simp only [Option.ite_none_right_eq_some, Option.some.injEq] at hf
        obtain ⟨hz, hd⟩ := hf
        cases r1 with
        | tup h r =>
          have ev := strs_rep r e1
          subst ev
          exact ⟨_, _, ss.map strV, rfl, rfl, .inr (.of (e _ _ h)), by rw [join_size]; exact hz, fin _ _ hz hd.symm⟩
    · cases hf
  · cases hf
theorem ev_join (ho : Ev X W En o fa) (ha : EvA X W En [e] g) 
    (hbase : attributeBase o "join" X.env (eval o X.env) = eval o X.env := by rfl)
    (hfew : ((backTo cpos (starEach [e] X.env)).all (fun x => !x.1) && (backToKw cpos (keywordEach [] X.env)).all (fun x => x.1.isSome)
      && decide ([e].length + ([] : List Keyword).length + (if ([] : List Keyword).isEmpty then 0 else 1) < 30)) = true := by rfl)
    (hline : (apos.endLine == cpos.line) = true := by rfl) (hs' : starEach [e] X.env = (false, eval e X.env) :: starEach [] X.env := by rfl) :
    Ev X W En (.Call (.Attribute o "join" apos) [e] [] cpos) (eMet "str" dJoin fa g) :=
  ev_met PySem.F.plainAttrs_str PySem.F.slot_str_join PySem.F.type_str_join mt_join ms_join ho ha (by decide) hbase hfew hline hs'
def dCount (a : D) (as : List D) : Option D := match a with
  | .str a => match as with
    | [.str b] => some (.int (Txt.count (strV a) (strV b)))
    | _ => none
  | _ => none
theorem ms_count : MetS X (fun x xs H Q => ∃ a b, x = .str a ∧ xs = [.str b] ∧ Q (.int (Txt.count a b)) H) dCount := by
  intro P H x xs a as d Q e h1 h2 hf q
  unfold dCount at hf
  split at hf
  · cases h1
    split at hf
    · obtain ⟨v, rfl, r1⟩ := h2.one
      cases r1
      cases hf
      exact ⟨_, _, rfl, rfl, q _ _ _ (.here e) (.int _)⟩
    · cases hf
  · cases hf
def dStarts (a : D) (as : List D) : Option D := match a with
  | .str a => match as with
    | [.str b] => some (.bl (Txt.startswith (strV a) (strV b)))
    | [.str b, .int i] => some (.bl (Txt.startswith3 (strV a) (strV b) i))
    | _ => none
  | _ => none
def rStarts : V → List V → Hp → VK → Prop := fun x xs H Q => (∃ a b, x = .str a ∧ xs = [.str b] ∧ Q (.bl (Txt.startswith a b)) H) ∨ ∃ (a b : Str) (i : Int), x = .str a ∧ xs = [.str b, .int i] ∧ Q (.bl (Txt.startswith3 a b i)) H
theorem mt_starts : MtR X "str.startswith" rStarts := fun pins s σ H x xs v us Q I rx rs h => by
  rcases h with h | h
  · exact mt_startswith pins s σ H x xs v us Q I rx rs h
  · exact mt_startswith3 pins s σ H x xs v us Q I rx rs h
theorem ms_starts : MetS X rStarts dStarts := by
  intro P H x xs a as d Q e h1 h2 hf q
  unfold dStarts at hf
  split at hf
  · cases h1
    split at hf
    · obtain ⟨v, rfl, r1⟩ := h2.one
      cases r1
      cases hf
      exact .inl ⟨_, _, rfl, rfl, q _ _ _ (.here e) (.bl _)⟩
    · obtain ⟨v, w, rfl, r1, r2⟩ := h2.two
      cases r1
      cases r2
      cases hf
      exact .inr ⟨_, _, _, rfl, rfl, q _ _ _ (.here e) (.bl _)⟩
    · cases hf
  · cases hf
/-- text.index(text) -/
def dIndexS (a : D) (as : List D) : Option D := match a with
  | .str a => match as with
    | [.str b] => match Txt.index0 (strV a) (strV b) with
      | some i => some (.int (i : Nat))
      | none => none
    | _ => none
  | _ => none
theorem ms_indexS : MetS X (fun x xs H Q => ∃ a b i rest, x = .str a ∧ xs = [.str b] ∧ Builtin.Str.occurrences a b 0 a.length 1 = i :: rest ∧ Q (.int (i : Nat)) H) dIndexS := by
  intro P H x xs a as d Q e h1 h2 hf q
  unfold dIndexS at hf
  split at hf
  · rename_i a0 s1
    cases h1
    split at hf
    · rename_i as0 s2
      obtain ⟨v, rfl, r1⟩ := h2.one
      cases r1
      cases e1 : Builtin.Str.occurrences (strV s1) (strV s2) 0 (strV s1).length 1 with
      | nil => unfold Txt.index0 at hf; rw [e1] at hf; cases hf
      | cons i rest =>
        unfold Txt.index0 at hf; rw [e1] at hf; cases hf
        exact ⟨_, _, i, rest, rfl, rfl, e1, q _ _ _ (.here e) (.int _)⟩
    · cases hf
  · cases hf
/-- list.index, of texts -/
def dIndexL (a : D) (as : List D) : Option D := match a with
  | .lst ds => match as with
    | [.str b] => match strsOf ds with
      | some ss => match ss.findIdx? (· == b) with
        | some i => some (.int (i : Nat))
        | none => none
      | none => none
    | _ => none
  | _ => none
theorem ms_indexL : MetS X (rIndex X.K) dIndexL := by
  intro P H x xs a as d Q e h1 h2 hf q
  unfold dIndexL at hf
  split at hf
  · rename_i a0 ds
    split at hf
    · rename_i as0 b
      obtain ⟨v, rfl, r1⟩ := h2.one
      cases r1
      cases e1 : strsOf ds with
      | none => rw [e1] at hf; cases hf
      | some ss =>
        rw [e1] at hf
        simp only at hf
        cases e2 : ss.findIdx? (· == b) with
        | none => rw [e2] at hf; cases hf
        | some i =>
          rw [e2] at hf; cases hf
          cases h1 with
          | lst h r =>
            have ev := strs_rep r e1
            subst ev
            obtain ⟨hi, h3, h4⟩ := List.findIdx?_eq_some_iff_getElem.mp e2
            refine ⟨_, _, _, i, V.str (strV ss[i]), rfl, rfl, .of h, rfl, ?_, ?_, ?_, fun m z' hm hz => ?_, q _ _ _ (.here e) (.int _)⟩
            · rw [List.all_eq_true]
              intro z hz
              obtain ⟨y, hy, rfl⟩ := List.mem_map.mp hz
              rfl
            · simp [hi]
            · show (strV ss[i] == strV b) = true
              rw [strV_beq]; exact h3
            · simp only [List.getElem?_map, Option.map_map] at hz
              cases e3 : ss[m]? with
              | none => rw [e3] at hz; cases hz
              | some y =>
                rw [e3] at hz; cases hz
                show (strV y == strV b) = false
                rw [strV_beq]
                obtain ⟨hm2, rfl⟩ := List.getElem?_eq_some_iff.mp e3
                simpa using h4 m hm
    · cases hf
  · cases hf
end
end DL
end
section
set_option Elab.async false
set_option linter.all false
set_option maxRecDepth 100000
namespace DL
open PySem L2 Evl PySem.Spec PyProof.Rows LamX
open PySem.Builtin

/-! ### x[::-1] -/
theorem rv_adjust (n : Nat) : Slice.sliceAdjust none none (-1) (n : Int) = ((n : Int) - 1, -1) := by
  unfold Slice.sliceAdjust; simp
theorem rv_places (n : Nat) : Slice.slicePlaces ((n : Int) - 1) (-1) (-1) = n := by
  unfold Slice.slicePlaces
  rw [if_neg (by decide)]
  by_cases h : (n : Int) - 1 > -1
  · rw [if_pos h]
    have : ((n : Int) - 1 - -1 - 1) / (- -1) + 1 = (n : Int) := by
      rw [show (- -1 : Int) = 1 by decide, Int.ediv_one]; omega
    rw [this]; simp
  · rw [if_neg h]; simp; omega
theorem rv_pick {α : Type} (xs : Array α) : ((List.range xs.size).filterMap fun (m : Nat) => xs[((xs.size : Int) - 1 + (m : Int) * (-1)).toNat]?) = xs.toList.reverse := by
  have e0 : (fun (m : Nat) => xs[((xs.size : Int) - 1 + (m : Int) * (-1)).toNat]?) = (fun k => xs[k]?) ∘ fun (m : Nat) => ((xs.size : Int) - 1 + (m : Int) * (-1)).toNat := rfl
  rw [e0, ← List.filterMap_map]
  have e1 : (List.range xs.size).map (fun (m : Nat) => ((xs.size : Int) - 1 + (m : Int) * (-1)).toNat) = (List.range xs.size).map fun m => xs.size - 1 - m :=
    List.map_congr_left fun m hm => by have hm := List.mem_range.mp hm; omega
  rw [e1, PySem.W.krv_range, List.filterMap_reverse]
  congr 1
  exact PySem.W.krv_all xs
section
variable {prog : Program} {w : World} {A : Around} {E : Value → Shared → Prop} {s : Shared}
theorem rv_applied {sl : Addr} {vs : Value} {n : Nat} {Q : Int × Int × Nat → Shared → Prop} (hs : s.heap.IsSliceOf sl .none .none vs) (ps : IsPart vs (some (-1)))
    (h : Q ((n : Int) - 1, -1, n) s) : wpAny (model prog w) A (Slice.sliceApplied (.ref sl) (pure (n : Int))) Q E s := by
  obtain ⟨os, hos, hcs, hds⟩ := id hs
  unfold Slice.sliceApplied Slice.sliceFields
  refine wpAny_bind (wpAny_bind (wpAny_field hos hds (x := .none) rfl (wpAny_bind (wpAny_field hos hds (x := .none) rfl (wpAny_bind (wpAny_field hos hds (x := vs) rfl (wpAny_pure ?_)))))))
  refine wpAny_bind (HT.slicePart_ ps ?_)
  show wpAny _ _ (if ((-1 : Int) == 0) = true then _ else _) _ _ s
  rw [if_neg (by decide)]
  refine wpAny_bind (HT.slicePart_ .none (wpAny_bind (HT.slicePart_ .none (wpAny_bind (wpAny_pure ?_)))))
  show wpAny _ _ (match Slice.sliceAdjust none none (-1) (n : Int) with | (lo, hi) => pure (lo, (-1 : Int), Slice.slicePlaces lo hi (-1))) _ _ s
  rw [rv_adjust n]
  show wpAny _ _ (pure ((n : Int) - 1, (-1 : Int), Slice.slicePlaces ((n : Int) - 1) (-1) (-1))) _ _ s
  rw [rv_places]
  exact wpAny_pure h
theorem rv_tuple {t sl : Addr} {items : Array Value} {vs : Value} {Q : Value → Shared → Prop} (ht : IsTup s.heap t items) (hs : s.heap.IsSliceOf sl .none .none vs) (ps : IsPart vs (some (-1)))
    (h : Q (.ref s.heap.objs.size) { s with heap := s.heap.push { cls := .type "tuple", data := .seq items.toList.reverse.toArray } })
    (hsz : items.size ≤ sizeLine) : wpAny (model prog w) A (getItem (.ref t) (.ref sl)) Q E s := by
  have htake : sizeOk (.seq items.toList.reverse.toArray) := by
    show items.toList.reverse.toArray.size ≤ sizeLine
    rw [List.size_toArray, List.length_reverse, Array.length_toList]; exact hsz
  obtain ⟨os, hos, hcs, hds⟩ := id hs
  have hTs : s.TypeIs (.ref sl) "slice" := ⟨os, hos, hcs⟩
  unfold getItem
  try with_reducible refine wpAny_holding ?_
  first | refine wpAny_bind (wpAny_pure ?_) | skip
  refine wpAny_bind (wpAny_sequenceKey ht.typeIs (by decide) ?_)
  refine wpAny_bind (wpAny_callSpecial?_slot (name := Str.ofString "__getitem__") ht.typeIs PyProof.Rows.slot_tuple_getitem
    (wpAny_call_entry PyProof.Rows.slot_tuple_getitem ht.typeIs entry_tuple_getitem ?_ (args_tuple_getitem _ _)))
  show wpAny _ _ (Builtin.Tuple.tupleItemsOf (.ref t) >>= _) _ _ s
  refine wpAny_bind (tupleItemsOf_ ht ?_)
  refine wpAny_bind (wpAny_typeOf hTs ?_)
  rw [if_pos (by decide)]
  refine wpAny_bind (rv_applied (n := items.size) hs ps ?_)
  have hno : ¬ ((((items.size : Int) - 1) == 0 && (-1 : Int) == 1 && items.size == items.size) = true) := by
    intro q
    rw [Bool.and_eq_true, Bool.and_eq_true] at q
    exact absurd (eq_of_beq q.1.2) (by decide)
  show wpAny _ _ (if (((items.size : Int) - 1) == 0 && (-1 : Int) == 1 && items.size == items.size) = true then _ else _) _ _ s
  rw [if_neg hno, rv_pick]
  first
    | exact wpAny_bind (m := Builtin.Tuple.tupleExact _) (wpAny_newObj_type (wpAny_pure ⟨_, rfl, wpAny_pure h⟩) htake)
    | exact wpAny_bind (m := Builtin.Tuple.tupleExact _) (wpAny_newObj_type (wpAny_bind (wpAny_pure (wpAny_pure ⟨_, rfl, wpAny_pure h⟩))) htake)
    | exact wpAny_bind (wpAny_bind (m := Builtin.Tuple.tupleExact _) (wpAny_newObj_type (wpAny_pure (wpAny_pure ⟨_, rfl, wpAny_pure h⟩)) htake))
    | exact wpAny_bind (wpAny_bind (m := Builtin.Tuple.tupleExact _) (wpAny_newObj_type (wpAny_pure ⟨_, rfl, wpAny_pure h⟩) htake))
end
theorem rv_str (x : Str) (t k : Tok) : sliceMade x t none none (some (-1, k)) = .str ⟨x.cps.toList.reverse.toArray⟩ := by
  unfold sliceMade
  have h0 : ¬ ((((some ((-1 : Int), k)).map (·.1)).getD 1 == 1 && (slicePicked x none none (some (-1, k))).length == x.length) = true) := by
    intro q
    rw [Bool.and_eq_true] at q
    exact absurd q.1 (by show ¬ (((-1 : Int) == 1) = true); decide)
  rw [if_neg h0]
  have e : slicePicked x none none (some (-1, k)) = (List.range x.cps.size).map fun m => x.cps.size - 1 - m := by
    show Builtin.Str.strSliceIndices none none (-1) x.length = _
    unfold Builtin.Str.strSliceIndices
    exact PySem.W.krv_sliceRange x.cps.size
  rw [e, PySem.W.krv_range, List.filterMap_reverse, PySem.W.krv_all]
section
variable {X : Cx} {W : WX} {En : Ent} {e : Expr} {pos p1 p2 p3 : Pos} {f : Ga → R (Res × Ga)}
def RevR (X : Cx) (r : V → Hp → VK → Prop) : Prop :=
  ∀ (pins : List (Addr × Obj)) (s : Shared) (σ : L2.St) (H : Hp) (x : V) (v vs : Value) (sl : Addr) (Q : VK), Inv X pins σ H s → RelV x v → s.heap.IsSliceOf sl .none .none vs → IsPart vs (some (-1)) → r x H Q →
    ∃ T id, typeLookup (.type T) "__getitem__" = pure (some (.builtin id)) ∧ s.TypeIs v T ∧ wpAny (model X.prog X.w) X.A (getItem v (.ref sl)) (EP X pins σ Q) X.xe s
def tRev (r : V → Hp → VK → Prop) (te : TE) : TE := fun σ H Q => te σ H fun x H1 => r x H1 Q
theorem pe_rev {r : V → Hp → VK → Prop} {te : TE} {k : Nat} {qa q2 q3 : Pos} (hr : RevR X r) (he : PE X e te) : PE X (.Subscript e (.Slice none none (some (.UnaryOp .USub (.Constant (.int 1) k qa) q2)) q3) pos) (tRev r te) := by
  refine ⟨fun pins s σ H Q I h => ?_⟩
  refine Subscript_ (thn (he.run pins s σ H _ I h) fun v s1 ⟨x, H1, I1, r1, q1⟩ => ?_)
  have hst : PO X (some (.UnaryOp .USub (.Constant (.int 1) k qa) q2)) (tPart (tUn (rU fun i => .int (-i)) (tC (.int 1)))) := po_some (pe_un un_neg pe_int)
  refine wpAny_Slice (thn (po_none.run pins s1 σ H1 (fun o H2 => o = none ∧ H2 = H1) I1 ⟨rfl, rfl⟩) fun vl s2 ⟨l, H2, I2, pl, el, e2⟩ => ?_)
  subst el e2
  refine thn (po_none.run pins s2 σ H2 (fun o H3 => o = none ∧ H3 = H2) I2 ⟨rfl, rfl⟩) fun vu s3 ⟨u, H3, I3, pu, eu, e3⟩ => ?_
  subst eu e3
  refine thn (hst.run pins s3 σ H3 (fun o H4 => o = some (-1) ∧ H4 = H3) I3 ⟨1, rfl, -1, rfl, rfl, rfl⟩) fun vs s4 ⟨o, H4, I4, ps, eo, e4⟩ => ?_
  subst eo e4
  have I5 : Inv X pins σ H4 { s4 with heap := s4.heap.push { cls := .type "slice", data := .fields #[vl, vu, vs] } } := I4.kept (t' := s4.toks) fun b ob q => Heap.get?_push_of_some _ q
  cases pl
  cases pu
  obtain ⟨T, id, t1, t2, t3⟩ := hr pins _ σ H4 x v vs _ Q I5 r1 (Heap.IsSliceOf.new _ .none .none vs) ps q1
  exact tail_any (ops := [v, .ref s4.heap.objs.size]) t2 t1 t3 (by with_unfolding_all rfl)
def rRevA (X : Cx) : V → Hp → VK → Prop := fun x H Q => (∃ a xs, x = .ref a ∧ SqL X.K H a xs ∧ ∀ p, H p = none → Q (.ref p) (upd H p (.lst xs.reverse))) ∨
  (∃ a xs, x = .ref a ∧ SqT X.K H a xs ∧ ∀ p, H p = none → Q (.ref p) (upd H p (.tup xs.reverse))) ∨ ∃ z, x = .str z ∧ z.length ≤ sizeLine ∧ Q (.str ⟨z.cps.toList.reverse.toArray⟩) H
theorem rev_all : RevR X (rRevA X) := by
  intro pins s σ H x v vs sl Q I rx hs ps h
  rcases h with ⟨a, xs, rfl, hx, q⟩ | ⟨a, xs, rfl, hx, q⟩ | ⟨z, rfl, hz, q⟩
  · cases rx
    obtain ⟨its, r, ht, hz⟩ := I.list hx
    have hlen := r.length
    refine ⟨"list", _, PySem.slot_list_getitem.lookup, ht.isList.typeIs, ?_⟩
    refine wpAny_getItem_list_slice ht.isList hs .none .none ps (by decide) ?_ (by rw [List.size_toArray]; omega)
    rw [PySem.W.krv_pick]
    refine ⟨.ref _, _, I.laid (t' := s.toks) (o := .lst xs.reverse) (fun b ob q => Heap.get?_push_of_some _ q) (Nat.le_refl _) ?_, rfl, q _ (I.hok.fresh (Nat.le_refl _))⟩
    exact ⟨by rw [List.length_reverse]; exact hz, _, 0, r.reverse, Heap.get?_push_size _ rfl⟩
  · cases rx
    obtain ⟨its, r, ht, hz⟩ := I.tuple hx
    have hlen := r.length
    refine ⟨"tuple", _, PyProof.Rows.slot_tuple_getitem.lookup, ht.typeIs, ?_⟩
    refine rv_tuple ht hs ps ?_ (by rw [List.size_toArray]; omega)
    refine ⟨.ref s.heap.objs.size, _, I.laid (t' := s.toks) (o := .tup xs.reverse) (fun b ob q => Heap.get?_push_of_some _ q) (Nat.le_refl _) ?_, rfl, q _ (I.hok.fresh (Nat.le_refl _))⟩
    exact ⟨by rw [List.length_reverse]; exact hz, _, r.reverse, IsTup.new _ _⟩
  · obtain ⟨t, rfl⟩ := rx
    refine ⟨"str", _, PySem.F.slot_str_getitem.lookup, typeIs_str s z t, ?_⟩
    obtain ⟨k, ek⟩ : ∃ k, vs = Value.int (-1) k := by
      cases ps; exact ⟨_, rfl⟩
    subst ek
    refine wpAny_getItem_str_slice (l := none) (u := none) (st := some (-1, k)) hs rfl ?_
    rw [rv_str]
    exact ⟨by show (z.cps.toList.reverse.toArray).size ≤ sizeLine; rw [List.size_toArray, List.length_reverse, Array.length_toList]; exact hz, .str _, H, I.tok _, ⟨_, rfl⟩, q⟩
def dRev (a : D) : Option D := match a with
  | .lst xs => some (.lst xs.reverse)
  | .scr xs => some (.lst xs.reverse)
  | .tup xs => some (.tup xs.reverse)
  | .str s => some (.str s.reverse)
  | _ => none
theorem rev_go {P H : Hp} {x : V} {a d : D} {Q : VK} (e : Ex P H) (h1 : RepW X.K X.mg P H a x) (hf : dRev a = some d) (q : ∀ v H' P', Gr P H P' H' → Rep X.K X.mg P' d v → Q v H') : rRevA X x H Q := by
  cases h1 with
  | lst h r =>
    cases hf
    exact .inl ⟨_, _, rfl, .of h, fun p n => q _ _ _ (.add e n) (.lst upd_same (r.rev.mono (Ex.new (fresh_back e n))))⟩
  | scr h r =>
    cases hf
    exact .inl ⟨_, _, rfl, ex_l e h, fun p n => q _ _ _ (.add e n) (.lst upd_same (r.rev.mono (Ex.new (fresh_back e n))))⟩
  | tup h r =>
    cases hf
    exact .inr (.inl ⟨_, _, rfl, .of (e _ _ h), fun p n => q _ _ _ (.add e n) (.tup upd_same (r.rev.mono (Ex.new (fresh_back e n))))⟩)
  | str s hs =>
    cases hf
    refine .inr (.inr ⟨_, rfl, by rw [len_strV]; exact hs, ?_⟩)
    rw [cps_strV]
    exact q _ _ _ (.here e) (.str _ (by rw [List.length_reverse]; exact hs))
  | _ => cases hf
theorem ev_rev {k : Nat} {qa q2 q3 : Pos} (ha : Ev X W En e f) : Ev X W En (.Subscript e (.Slice none none (some (.UnaryOp .USub (.Constant (.int 1) k qa) q2)) q3) pos) (eOp1 dRev f) := by
  obtain ⟨t, p, h⟩ := ha
  refine ⟨_, pe_rev rev_all p, fun σ H P γ Q S q => one_go (rep := repE X) (k := fun a γ2 => ofO (dRev a) >>= fun d => .ok (.val d, γ2)) h hrepE S q fun P2 H2 γ2 a x S2 r1 q2 => ?_⟩
  rcases ofO_cases (dRev a) with ⟨d, e, e'⟩ | e
  · rw [e', R.ok_bind] at q2
    exact rev_go S2.sub r1 e fun v H' P' g r => q2.val S2 g r
  · rw [e] at q2; exact q2.elim
end
end DL
end
section
set_option Elab.async false
set_option linter.all false
set_option maxRecDepth 100000
namespace DL
open PySem L2 Evl PySem.Spec PyProof.Rows

/-! ### [.. for .. in .. if .. for .. in .. if ..] -/
section
variable {X : Cx} {W : WX} {En : Ent} {e a b c c1 tg iter tg1 iter1 elt : Expr} {pos : Pos} {f fa fb : Ga → R (Res × Ga)}
def uI (X : Cx) (En : Ent) (it : Ga → R (List D × Ga)) : TI := fun σ H Rr => ∃ P γ, Sat X.K X.mg En P σ H γ ∧ PostG X W0 En (repI X) σ P H γ Rr (it γ)
theorem EvI.u {it : Ga → R (List D × Ga)} (h : EvI X W0 En tg iter it) : PI X tg iter (uI X En it) := by
  obtain ⟨w, p, h⟩ := h
  exact ⟨fun pins s σ H Rr I ⟨P, γ, S, q⟩ => p.run pins s σ H Rr I (h σ H P γ Rr S q)⟩
/-- one clause's turns, over a list that stands already -/
theorem loop_go {vs : List Nat} {bd : D → Ga → Option Ga} {ft : Ga → R (Bool × Ga)} {fe : Ga → R (Res × Ga)} {js : List Nat} {tt : TT} {ds : List D} {J : It} (hj : ∀ j ∈ js, j ∈ vs) (nm : NoMu bd)
    (ht : ∀ σ H P γ Q, Sat X.K X.mg En P σ H γ → PostG X W0 En repT σ P H γ Q (ft γ) → tt σ H Q)
    {σ : L2.St} {M : Addr → Prop} {Pb Hb P1 : Hp} {A : Addr} {len0 : Nat} {C : R (List D × Ga) → Prop} (hC : ¬ C .no) (hCx : ∀ c, ¬ C (.exc c)) {N : Hp → Prop} (nM : ¬ M A) (n0 : En.H0 A = none) (nb : Hb A = none) (hlen : len0 + ds.length < sizeLine)
    (items : ItemsOf X.K X.mg J ds P1)
    (fin : ∀ P' H' γ' acc accD, Sat X.K X.mg En P' (L2.wipe σ vs) H' (wipeG vs 0 γ') → H' A = some (.lst acc) → P' A = none → RepL X.K X.mg P' accD acc → accD.length ≤ len0 + ds.length → Stg M Pb Hb P' H' → (∀ a, MuAt En.T (L2.wipe σ vs) (wipeG vs 0 γ') a → M a) → Ex P1 P' → C (.ok (accD, wipeG vs 0 γ')) → N H')
    {P0 H0 : Hp} {γ0 : Ga} {acc0 : List V} {accD0 : List D} (S0 : Sat X.K X.mg En P0 (L2.wipe σ vs) H0 (wipeG vs 0 γ0)) (hD0 : H0 A = some (.lst acc0)) (hP0 : P0 A = none) (r0 : RepL X.K X.mg P0 accD0 acc0) (hl0 : accD0.length ≤ len0)
    (T0 : Stg M Pb Hb P0 H0) (m0 : ∀ a, MuAt En.T (L2.wipe σ vs) (wipeG vs 0 γ0) a → M a) (x0 : Ex P1 P0) (q0 : C (loopC bd ft fe vs ds (wipeG vs 0 γ0) >>= fun r => .ok (accD0 ++ r.1, r.2))) :
    ∃ Wl : Nat → Nat → Hp → Prop, (∃ m, Wl 0 m H0) ∧ ∀ i m H, Wl i m H → (J.stop i H ∧ N H) ∨ (J.go i H ∧ ∃ Nx : Hp → Prop, (∀ H', Nx H' → ∃ m', m' < m ∧ Wl (i + 1) m' H') ∧ ∀ x H', J.yld i H x H' → uG X En js bd x (L2.wipe σ vs) H' fun σ2 H2 => L2.wipe σ2 vs = L2.wipe σ vs ∧ tt σ2 H2 fun b H3 =>
      if b = true then uE X En fe σ2 H3 fun y H4 => ∃ acc, H4 A = some (.lst acc) ∧ acc.length < sizeLine ∧ Nx (upd H4 A (.lst (acc ++ [y]))) else Nx H3) := by
  refine ⟨fun i m H' => ∃ P' γ' acc accD, Sat X.K X.mg En P' (L2.wipe σ vs) H' (wipeG vs 0 γ') ∧ H' A = some (.lst acc) ∧ P' A = none ∧ RepL X.K X.mg P' accD acc ∧ accD.length ≤ len0 + i ∧ i + m = ds.length ∧ Stg M Pb Hb P' H' ∧ (∀ a, MuAt En.T (L2.wipe σ vs) (wipeG vs 0 γ') a → M a) ∧ Ex P1 P' ∧
    C (loopC bd ft fe vs (ds.drop i) (wipeG vs 0 γ') >>= fun (r : List DL.D × Ga) => .ok (accD ++ r.1, r.2)), ⟨ds.length, P0, γ0, acc0, accD0, S0, hD0, hP0, r0, hl0, Nat.zero_add _, T0, m0, x0, by simpa using q0⟩, ?_⟩
  rintro i m H' ⟨P', γ', acc, accD, S', hDl, hPD, racc, hal, him, T', hmu, xP, q'⟩
  cases m with
  | zero =>
    have hd : ds.drop i = [] := List.drop_eq_nil_of_le (by omega)
    rw [hd] at q'
    refine .inl ⟨?_, ?_⟩
    · have := items.2 P' H' xP S'.sub
      rw [← him, Nat.add_zero] at this
      exact this
    · have q2 : C (.ok (accD ++ [], wipeG vs 0 γ')) := q'
      rw [List.append_nil] at q2
      exact fin P' H' γ' acc accD S' hDl hPD racc (by omega) T' hmu xP q2
  | succ m =>
    have hi : i < ds.length := by omega
    have hd : ds.drop i = ds[i] :: ds.drop (i + 1) := List.drop_eq_getElem_cons hi
    rw [hd] at q'
    obtain ⟨hgo, hy⟩ := items.1 i ds[i] (List.getElem?_eq_getElem hi) P' H' xP S'.sub
    refine .inr ⟨hgo, _, fun H'' h => ⟨m, Nat.lt_succ_self m, h⟩, fun x H2 y => ?_⟩
    obtain ⟨P2, g2, r2⟩ := hy x H2 y
    have S2 := S'.gr g2
    unfold loopC at q'
    let C' : R (List DL.D × Ga) → Prop := fun r => C (r >>= fun (r : List DL.D × Ga) => .ok (accD ++ r.1, r.2))
    obtain ⟨γ3, e3, q3⟩ := ofO_ok (C := C') hC q'
    refine ⟨P2, _, _, γ3, S2, r2, e3, fun σ3 S3 b3 => ?_⟩
    have hw : L2.wipe σ3 vs = L2.wipe σ vs := wipe_but b3 hj
    refine ⟨by rw [hw], ht σ3 H2 P2 γ3 _ S3 ?_⟩
    obtain ⟨⟨bb, γ4⟩, e4, q4⟩ := noX_bind (C := C') hC q3
    rw [e4]
    intro b' H3 P3 S4 T3 eb
    have eb : bb = b' := eb
    subst eb
    have M3 : ∀ a, MuAt En.T σ3 γ3 a → M a := fun a h => by
      rcases h with ⟨i, d, h1, h2⟩ | h
      · have h3 := nm _ _ _ _ _ e3 h1
        obtain ⟨h4, n4⟩ := wipeG_mu (by simp) h3
        rw [b3.2 i fun z => n4 (hj i z)] at h2
        exact hmu a (.inl ⟨i, d, h3, h2⟩)
      · exact hmu a (.inr h)
    have G2 : Stg M Pb Hb P2 H2 := T'.trans g2.g
    have O2 := (g2.g (M := M)).own hPD hDl trivial nM
    have G3 : Stg M P2 H2 P3 H3 := T3.g.mono M3
    have O3 := G3.own O2.1 O2.2 trivial nM
    have M4 : ∀ a, MuAt En.T σ3 γ4 a → M a := fun a h => M3 a (T3.mus a h)
    cases bb with
    | false =>
      have q5 : C (loopC bd ft fe vs (ds.drop (i + 1)) (wipeG vs 0 γ4) >>= fun (r : List DL.D × Ga) => .ok (accD ++ r.1, r.2)) := q4
      exact ⟨P3, γ4, acc, accD, hw ▸ S4.wipe (vs := vs), O3.2, O3.1, racc.mono (g2.p.trans T3.ph), by omega, by omega, G2.trans G3, fun a h => M4 a (MuAt.wipe (vs := vs) (by rw [hw]; exact h)), xP.trans (g2.p.trans T3.ph), q5⟩
    | true =>
      refine ⟨P3, γ4, S4, ?_⟩
      obtain ⟨⟨rr, γ5⟩, e5, q5⟩ := noX_bind (C := C') hC q4
      rw [e5]
      intro y H4 P4 S5 T4 rv
      obtain ⟨d5, e6, q6⟩ := valOf_bind (C := C') hC q5
      simp only at e6
      subst e6
      have rv : Rep X.K X.mg P4 d5 y := rv
      have G4 : Stg M P3 H3 P4 H4 := T4.g.mono M4
      have O4 := G4.own O3.1 O3.2 trivial nM
      have M5 : ∀ a, MuAt En.T (L2.wipe σ vs) (wipeG vs 0 γ5) a → M a := fun a h => M4 a (T4.mus a (MuAt.wipe (vs := vs) (by rw [hw]; exact h)))
      have la : acc.length = accD.length := racc.length.symm
      refine ⟨acc, O4.2, by omega, P4, γ5, acc ++ [y], accD ++ [d5], (hw ▸ S5.wipe (vs := vs)).upd O4.1 n0 O4.2 trivial (fun φ z => by cases z) fun z => nM (M5 _ z), upd_same, O4.1, (racc.mono (g2.p.trans (T3.ph.trans T4.ph))).append (.cons rv .nil), by simp; omega, by omega, (G2.trans (G3.trans G4)).put nb, M5, xP.trans (g2.p.trans (T3.ph.trans T4.ph)), ?_⟩
      cases el : loopC bd ft fe vs (ds.drop (i + 1)) (wipeG vs 0 γ5) with
      | no => simp only [el] at q6; exact absurd q6 hC
      | exc c => simp only [el] at q6; exact absurd q6 (hCx c)
      | ok r =>
        simp only [el] at q6
        rw [R.ok_bind]
        have q7 : C (.ok (accD ++ (d5 :: r.1), r.2)) := q6
        simpa using q7
def loopC2 (b : D → Ga → Option Ga) (ft : Ga → R (Bool × Ga)) (fi1 : Ga → R (List D × Ga)) (b1 : D → Ga → Option Ga) (ft1 : Ga → R (Bool × Ga)) (fe : Ga → R (Res × Ga)) (vs vs1 : List Nat) : Nat → List D → Ga → R (List D × Ga)
  | _, [], γ => .ok ([], γ)
  | n, d :: ds, γ => ofO (b d γ) >>= fun γ1 => noX (ft γ1) >>= fun p => if p.1 = true then noX (fi1 p.2) >>= fun q => if n + q.1.length < sizeLine then noX (loopC b1 ft1 fe vs1 q.1 (wipeG vs1 0 q.2)) >>= fun r => loopC2 b ft fi1 b1 ft1 fe vs vs1 (n + r.1.length) ds (wipeG vs 0 r.2) >>= fun z => .ok (r.1 ++ z.1, z.2) else .no
    else loopC2 b ft fi1 b1 ft1 fe vs vs1 n ds (wipeG vs 0 p.2)
def compL2 (fi : Ga → R (List D × Ga)) (b : D → Ga → Option Ga) (ft : Ga → R (Bool × Ga)) (fi1 : Ga → R (List D × Ga)) (b1 : D → Ga → Option Ga) (ft1 : Ga → R (Bool × Ga)) (fe : Ga → R (Res × Ga)) (vs vs1 : List Nat) : Ga → R (D × Ga) := fun γ =>
  fi γ >>= fun p => noX (loopC2 b ft fi1 b1 ft1 fe vs vs1 0 p.1 (wipeG vs 0 p.2)) >>= fun r => .ok (.lst r.1, unwipe p.2 vs 0 r.2)
theorem wipe_sub {σ : L2.St} {vs vs1 : List Nat} (hv : ∀ i ∈ vs1, i ∈ vs) : L2.wipe (L2.wipe σ vs1) vs = L2.wipe σ vs := by
  refine List.ext_getElem? fun i => ?_
  by_cases hi : i ∈ vs
  · by_cases l : i < σ.length
    · rw [wipe_in hi l, wipe_in hi (by rw [wipe_length]; exact l)]
    · rw [List.getElem?_eq_none (by rw [wipe_length, wipe_length]; omega), List.getElem?_eq_none (by rw [wipe_length]; omega)]
  · rw [wipe_out hi, wipe_out hi, wipe_out fun z => hi (hv i z)]
theorem lc2_go {vs vs1 : List Nat} {bd bd1 : D → Ga → Option Ga} {ft ft1 : Ga → R (Bool × Ga)} {fe : Ga → R (Res × Ga)} {it it1 : Ga → R (List D × Ga)} {js js1 : List Nat} {wi : TI} {Wi : WX} {tt tt1 : TT} (hj : ∀ j ∈ js, j ∈ vs) (nm : NoMu bd) (hj1 : ∀ j ∈ js1, j ∈ vs1) (nm1 : NoMu bd1) (hv : ∀ i ∈ vs1, i ∈ vs)
    (ht : ∀ σ H P γ Q, Sat X.K X.mg En P σ H γ → PostG X W0 En repT σ P H γ Q (ft γ) → tt σ H Q)
    (ht1 : ∀ σ H P γ Q, Sat X.K X.mg En P σ H γ → PostG X W0 En repT σ P H γ Q (ft1 γ) → tt1 σ H Q)
    (hi : ∀ σ H P γ R, Sat X.K X.mg En P σ H γ → PostG X Wi En (repI X) σ P H γ R (it γ) → wi σ H R)
    {σ : L2.St} {H P : Hp} {γ : Ga} {Q : VK} (S : Sat X.K X.mg En P σ H γ) (q : PostG X Wi En (repF X) σ P H γ Q (compL2 it bd ft it1 bd1 ft1 fe vs vs1 γ)) : tLc2 wi (uG X En js bd) tt (uI X En it1) (uG X En js1 bd1) tt1 (uE X En fe) vs vs1 σ H Q := by
  refine hi σ H P γ _ S ?_
  unfold compL2 at q
  cases e0 : it γ with
  | no => rw [e0] at q; exact q
  | exc c => rw [e0] at q; exact q
  | ok r0 =>
  obtain ⟨ds, γ1⟩ := r0
  rw [e0, R.ok_bind] at q
  intro J H1 P1 S1 T1 items D hD
  have q := q.later T1 (fun P' H' σ a b => hrepF H H1 P' H' σ a b T1.dom)
  simp only at q
  have nM : ¬ MuAt En.T σ γ1 D := fun z => ((z.there S1).2 hD).elim
  have n0 : En.H0 D = none := Classical.byContradiction fun z => S1.dom D z hD
  have nP : P1 D = none := fresh_back S1.sub hD
  let C : R (List DL.D × Ga) → Prop := fun r => PostG X Wi En (repF X) σ P1 H1 γ1 Q (noX r >>= fun (r : List DL.D × Ga) => .ok (.lst r.1, unwipe γ1 vs 0 r.2))
  have hC : ¬ C .no := fun z => z
  have hCx : ∀ c, ¬ C (.exc c) := fun c z => z
  refine ⟨fun i m H' => ∃ P' γ' acc accD, Sat X.K X.mg En P' (L2.wipe σ vs) H' (wipeG vs 0 γ') ∧ H' D = some (.lst acc) ∧ P' D = none ∧ RepL X.K X.mg P' accD acc ∧ i + m = ds.length ∧ Stg (MuAt En.T σ γ1) P1 H1 P' H' ∧ (∀ a, MuAt En.T (L2.wipe σ vs) (wipeG vs 0 γ') a → MuAt En.T σ γ1 a) ∧
    C (loopC2 bd ft it1 bd1 ft1 fe vs vs1 accD.length (ds.drop i) (wipeG vs 0 γ') >>= fun (r : List DL.D × Ga) => .ok (accD ++ r.1, r.2)), ⟨ds.length, P1, γ1, [], [], (S1.wipe (vs := vs)).gr (Gr.up S1.sub (Ex.new hD)), upd_same, nP, .nil, Nat.zero_add _, (Gr.up S1.sub (Ex.new hD)).g, fun a h => h.wipe, ?_⟩, ?_⟩
  · show C (loopC2 bd ft it1 bd1 ft1 fe vs vs1 0 ds (wipeG vs 0 γ1) >>= fun (r : List DL.D × Ga) => .ok ([] ++ r.1, r.2))
    have : (loopC2 bd ft it1 bd1 ft1 fe vs vs1 0 ds (wipeG vs 0 γ1) >>= fun (r : List DL.D × Ga) => (.ok ([] ++ r.1, r.2) : R (List DL.D × Ga))) = loopC2 bd ft it1 bd1 ft1 fe vs vs1 0 ds (wipeG vs 0 γ1) := by
      cases loopC2 bd ft it1 bd1 ft1 fe vs vs1 0 ds (wipeG vs 0 γ1) <;> rfl
    rw [this]; exact q
  rintro i m H' ⟨P', γ', acc, accD, S', hDl, hPD, racc, him, T', hmu, q'⟩
  cases m with
  | zero =>
    have hd : ds.drop i = [] := List.drop_eq_nil_of_le (by omega)
    rw [hd] at q'
    refine .inl ⟨?_, ?_⟩
    · have := items.2 P' H' T'.ph S'.sub
      rw [← him, Nat.add_zero] at this
      exact this
    · have q2 : PostG X Wi En (repF X) σ P1 H1 γ1 Q (.ok (.lst (accD ++ []), unwipe γ1 vs 0 (wipeG vs 0 γ'))) := q'
      refine q2 _ H' P' (S'.unwipe fun i d h => ?_) ⟨T'.ph, T'.new, T'.keep, T'.dom, fun a h => hmu a h.unwipe, T'.tups⟩ ⟨D, rfl, hD, hPD, .inl ⟨_, _, rfl, hDl, by rw [List.append_nil]; exact racc⟩⟩
      obtain ⟨v, h1, h2⟩ := S1.pu i d h
      exact ⟨v, h1, h2.mono T'.ph⟩
  | succ m =>
    have hi : i < ds.length := by omega
    have hd : ds.drop i = ds[i] :: ds.drop (i + 1) := List.drop_eq_getElem_cons hi
    rw [hd] at q'
    obtain ⟨hgo, hy⟩ := items.1 i ds[i] (List.getElem?_eq_getElem hi) P' H' T'.ph S'.sub
    refine .inr ⟨hgo, _, fun H'' h => ⟨m, Nat.lt_succ_self m, h⟩, fun x H2 y => ?_⟩
    obtain ⟨P2, g2, r2⟩ := hy x H2 y
    have S2 := S'.gr g2
    unfold loopC2 at q'
    let C' : R (List DL.D × Ga) → Prop := fun r => C (r >>= fun (r : List DL.D × Ga) => .ok (accD ++ r.1, r.2))
    obtain ⟨γ3, e3, q3⟩ := ofO_ok (C := C') hC q'
    refine ⟨P2, _, _, γ3, S2, r2, e3, fun σ3 S3 b3 => ?_⟩
    have hw : L2.wipe σ3 vs = L2.wipe σ vs := wipe_but b3 hj
    refine ⟨by rw [hw], ht σ3 H2 P2 γ3 _ S3 ?_⟩
    obtain ⟨⟨bb, γ4⟩, e4, q4⟩ := noX_bind (C := C') hC q3
    rw [e4]
    intro b' H3 P3 S4 T3 eb
    have eb : bb = b' := eb
    subst eb
    have M3 : ∀ a, MuAt En.T σ3 γ3 a → MuAt En.T σ γ1 a := fun a h => by
      rcases h with ⟨i, d, h1, h2⟩ | h
      · have h3 := nm _ _ _ _ _ e3 h1
        obtain ⟨h4, n4⟩ := wipeG_mu (by simp) h3
        rw [b3.2 i fun z => n4 (hj i z)] at h2
        exact hmu a (.inl ⟨i, d, h3, h2⟩)
      · exact .inr h
    have G2 : Stg (MuAt En.T σ γ1) P1 H1 P2 H2 := T'.trans g2.g
    have O2 := (g2.g (M := MuAt En.T σ γ1)).own hPD hDl trivial nM
    have G3 : Stg (MuAt En.T σ γ1) P2 H2 P3 H3 := T3.g.mono M3
    have O3 := G3.own O2.1 O2.2 trivial nM
    have M4 : ∀ a, MuAt En.T σ3 γ4 a → MuAt En.T σ γ1 a := fun a h => M3 a (T3.mus a h)
    cases bb with
    | false =>
      have q5 : C (loopC2 bd ft it1 bd1 ft1 fe vs vs1 accD.length (ds.drop (i + 1)) (wipeG vs 0 γ4) >>= fun (r : List DL.D × Ga) => .ok (accD ++ r.1, r.2)) := q4
      exact ⟨P3, γ4, acc, accD, hw ▸ S4.wipe (vs := vs), O3.2, O3.1, racc.mono (g2.p.trans T3.ph), by omega, G2.trans G3, fun a h => M4 a (MuAt.wipe (vs := vs) (by rw [hw]; exact h)), q5⟩
    | true =>
      refine ⟨P3, γ4, S4, ?_⟩
      obtain ⟨⟨ds1, γ5⟩, e5, q5⟩ := noX_bind (C := C') hC q4
      rw [e5]
      intro J1 H4 P4 S5 T4 items1
      simp only at q5
      split at q5
      rotate_left
      · exact absurd q5 hC
      rename_i hlen
      have G4 : Stg (MuAt En.T σ γ1) P3 H3 P4 H4 := T4.g.mono M4
      have O4 := G4.own O3.1 O3.2 trivial nM
      have M5 : ∀ a, MuAt En.T σ3 γ5 a → MuAt En.T σ γ1 a := fun a h => M4 a (T4.mus a h)
      let C1 : R (List DL.D × Ga) → Prop := fun r => C (noX r >>= fun r => loopC2 bd ft it1 bd1 ft1 fe vs vs1 r.1.length (ds.drop (i + 1)) (wipeG vs 0 r.2) >>= fun z => .ok (r.1 ++ z.1, z.2))
      refine loop_go (C := C1) (M := MuAt En.T σ γ1) (Pb := P1) (Hb := H1) (A := D) (len0 := accD.length) hj1 nm1 ht1 hC (fun c => hC) nM n0 hD hlen items1
        (fun P' H' γ' acc' accD' S' hDl hPD racc hal T' hmu xP q => ?_) (S5.wipe (vs := vs1)) O4.2 O4.1 (racc.mono (g2.p.trans (T3.ph.trans T4.ph))) (Nat.le_refl _) (G2.trans (G3.trans G4)) (fun a h => M5 a h.wipe) (Ex.refl P4) ?_
      · have q2 : C (loopC2 bd ft it1 bd1 ft1 fe vs vs1 accD'.length (ds.drop (i + 1)) (wipeG vs 0 (wipeG vs1 0 γ')) >>= fun z => .ok (accD' ++ z.1, z.2)) := q
        have Sw := S'.wipe (vs := vs)
        rw [wipe_sub hv, hw] at Sw
        exact ⟨P', wipeG vs1 0 γ', acc', accD', Sw, hDl, hPD, racc, by omega, T', fun a h => hmu a (MuAt.wipe (vs := vs) (by rw [wipe_sub hv, hw]; exact h)), q2⟩
      · show C (noX (loopC bd1 ft1 fe vs1 ds1 (wipeG vs1 0 γ5) >>= fun (r : List DL.D × Ga) => .ok (accD ++ r.1, r.2)) >>= fun r => loopC2 bd ft it1 bd1 ft1 fe vs vs1 r.1.length (ds.drop (i + 1)) (wipeG vs 0 r.2) >>= fun z => .ok (r.1 ++ z.1, z.2))
        cases el : loopC bd1 ft1 fe vs1 ds1 (wipeG vs1 0 γ5) with
        | no => rw [el] at q5; exact absurd q5 hC
        | exc c => rw [el] at q5; exact absurd q5 hC
        | ok r =>
          rw [el] at q5
          have q6 : C' (loopC2 bd ft it1 bd1 ft1 fe vs vs1 (accD.length + r.1.length) (ds.drop (i + 1)) (wipeG vs 0 r.2) >>= fun z => .ok (r.1 ++ z.1, z.2)) := q5
          show C (loopC2 bd ft it1 bd1 ft1 fe vs vs1 (accD ++ r.1).length (ds.drop (i + 1)) (wipeG vs 0 r.2) >>= fun z => .ok (accD ++ r.1 ++ z.1, z.2))
          rw [List.length_append]
          cases e2 : loopC2 bd ft it1 bd1 ft1 fe vs vs1 (accD.length + r.1.length) (ds.drop (i + 1)) (wipeG vs 0 r.2) with
          | no => rw [e2] at q6; exact q6
          | exc c => rw [e2] at q6; exact q6
          | ok z =>
            rw [e2] at q6
            have q7 : C (.ok (accD ++ (r.1 ++ z.1), z.2)) := q6
            rw [← List.append_assoc] at q7
            exact q7
theorem el_lc2 {scope : Scope} {own : List (Str × Nat)} {vs1 : List Nat} {bd bd1 : D → Ga → Option Ga} {ft ft1 : Ga → R (Bool × Ga)} {fe : Ga → R (Res × Ga)} {it it1 : Ga → R (List D × Ga)} {js js1 : List Nat} {ifs ifs1 : List Expr} {tt tt1 : TT} (hc : X.calm = true) (hN : X.N.Nodup) (hi : EvI X W En tg iter it) (ok : BlkOk X.N X.env.scope scope own)
    (hj : ∀ j ∈ js, j ∈ own.map (·.2)) (nm : NoMu bd) (hj1 : ∀ j ∈ js1, j ∈ vs1) (nm1 : NoMu bd1) (hv : ∀ i ∈ vs1, i ∈ own.map (·.2))
    (hg : ∀ s H C cl fp, EvG (BX X scope s H C cl fp) En js tg bd) (pt : ∀ s H C cl fp, PTs (BX X scope s H C cl fp) ifs tt) (ht : ∀ σ H P γ Q, Sat X.K X.mg En P σ H γ → PostG X W0 En repT σ P H γ Q (ft γ) → tt σ H Q)
    (hi1 : ∀ s H C cl fp, EvI (BX X scope s H C cl fp) W0 En tg1 iter1 it1) (hg1 : ∀ s H C cl fp, EvG (BX X scope s H C cl fp) En js1 tg1 bd1) (pt1 : ∀ s H C cl fp, PTs (BX X scope s H C cl fp) ifs1 tt1) (ht1 : ∀ σ H P γ Q, Sat X.K X.mg En P σ H γ → PostG X W0 En repT σ P H γ Q (ft1 γ) → tt1 σ H Q)
    (he : ∀ s H C cl fp, Ev (BX X scope s H C cl fp) W0 En elt fe)
    (hs : ∀ x, foldedSetIterable iter X.env x = pure x := by intro _; rfl) (hs1 : ∀ env x, foldedSetIterable iter1 env x = pure x := by intro _ _; rfl) : EvL X W En (.ListComp elt [⟨tg, iter, ifs, 0⟩, ⟨tg1, iter1, ifs1, 0⟩] scope pos) (compL2 it bd ft it1 bd1 ft1 fe (own.map (·.2)) vs1) := by
  obtain ⟨wi, pi, hi⟩ := hi
  exact ⟨_, pe_lc2 hc hN pi ok hv (fun s H C cl fp => (hg s H C cl fp).u) pt (fun s H C cl fp => (hi1 s H C cl fp).u) (fun s H C cl fp => (hg1 s H C cl fp).u) pt1 (fun s H C cl fp => (he s H C cl fp).u) hs hs1,
    fun hy hyl hsw => ps_setLc2 hc hN hy hyl hsw pi ok hv (fun s H C cl fp => (hg s H C cl fp).u) pt (fun s H C cl fp => (hi1 s H C cl fp).u) (fun s H C cl fp => (hg1 s H C cl fp).u) pt1 (fun s H C cl fp => (he s H C cl fp).u) hs hs1,
    fun σ H P γ Q S q => lc2_go hj nm hj1 nm1 hv ht ht1 hi S q⟩
end
end DL
end
section
set_option Elab.async false
set_option linter.all false
set_option maxRecDepth 100000
namespace DL
open PySem L2 Evl PySem.Spec PyProof.Rows LamX

/-! ### the same, a clause's answer a text or a pair of texts -/
abbrev HRes := Str ⊕ (Str × Str)
def giveR (Q : VK) : HRes → Hp → Prop
  | .inl r, H => Q (.str r) H
  | .inr r, H => ∀ p, H p = none → Q (.ref p) (upd H p (.tup [.str r.1, .str r.2]))
def wishR (K : PySem.W.Frag) (Q : VK) : List (Addr × HRes) → Value → Hp → Prop
  | [], _, _ => False
  | (C, r) :: l, cls, H => ∃ b, PySem.W.exmOne K cls (.ref C) = some b ∧ (b = true → giveR Q r H) ∧ (b = false → wishR K Q l cls H)
def TMetR (K : PySem.W.Frag) (told : Str) (l : List (Addr × HRes)) : (XK → Hp → VK → Prop) → Hp → VK → Prop := fun tl H Q =>
  tl (fun cls _ H' => wishR K Q l cls H') H fun v H' => ([.str told, v] : List V).length ≤ sizeLine ∧ ∀ p, H' p = none → Q (.ref p) (upd H' p (.tup [.str told, v]))
inductive HdsR (mg : Str → Option Value) (sg : Scope) : List ExceptHandler → List (Addr × HRes) → Prop
  | nil : HdsR mg sg [] []
  | cons {e ret : Str} {C : Addr} {j : Nat} {p4 p5 p6 p7 : Pos} {hds : List ExceptHandler} {l : List (Addr × HRes)} (hge : sg.names.lookup e = some .globalImplicit) (hme : mg e = some (.ref C)) (hde : (e == ("__debug__" : Str)) = false) (r : HdsR mg sg hds l) :
      HdsR mg sg (.ExceptHandler (some (.Name e p4)) none [.Return (some (.Constant (.str ret) j p5)) p6] p7 :: hds) ((C, .inl ret) :: l)
  | pair {e r1 r2 : Str} {C : Addr} {j j2 kt : Nat} {p4 p5 p6 p7 p8 p9 : Pos} {hds : List ExceptHandler} {l : List (Addr × HRes)} (hge : sg.names.lookup e = some .globalImplicit) (hme : mg e = some (.ref C)) (hde : (e == ("__debug__" : Str)) = false) (r : HdsR mg sg hds l) :
      HdsR mg sg (.ExceptHandler (some (.Name e p4)) none [.Return (some (.Tuple [.Constant (.str r1) j p5, .Constant (.str r2) j2 p8] kt p9)) p6] p7 :: hds) ((C, .inr (r1, r2)) :: l)
def tsR (r : HRes) : Addr → Value → Option Addr → TS := fun _ _ _ D _ H => giveR D.rt r H
theorem hdsR_ok {X : Cx} {sg : Scope} (hk : ∀ e, sg.names.lookup e = some .globalImplicit → Gl X e) {hds : List ExceptHandler} {l : List (Addr × HRes)} (h : HdsR X.mg sg hds l) : HdsOk X hds (l.map fun q => (Value.ref q.1, tsR q.2)) := by
  induction h with
  | nil => exact .nil
  | @cons e ret C j p4 p5 p6 p7 hds l hge hme hde r ih => exact .cons (ts := tsR (.inl ret)) ⟨hk e hge, hde, .inl hme⟩ (fun a oe cls d pn _ _ => pss_one (ps_ret pe_str)) ih
  | @pair e r1 r2 C j j2 kt p4 p5 p6 p7 p8 p9 hds l hge hme hde r ih =>
    exact .cons (ts := tsR (.inr (r1, r2))) ⟨hk e hge, hde, .inl hme⟩ (fun a oe cls d pn _ _ => ⟨fun pins s σ H D I h => (pss_one (ps_ret (pe_tup (pa_cons pe_str (pa_cons pe_str pa_nil))))).run pins s σ H D I ⟨by show 2 ≤ sizeLine; decide, h⟩⟩) ih
theorem wishR_many {K : PySem.W.Frag} {D : Ends} {Q : VK} (hD : D.rt = Q) {σ : L2.St} {d : Option Addr} : ∀ {l : List (Addr × HRes)} {cls : Value} {H : Hp}, wishR K Q l cls H → wMany K (fun _ _ _ _ => False) D (l.map fun q => (Value.ref q.1, tsR q.2)) cls d σ H
  | [], _, _, h => h
  | (C, r) :: l, cls, H, ⟨b, h1, h2, h3⟩ => ⟨b, h1, fun hb a _ => by show giveR D.rt r H; rw [hD]; exact h2 hb, fun hb => wishR_many hD (h3 hb)⟩
theorem metR_gives {X : Cx} {Ng : List Str} {x a q told : Str} {sg : Scope} {g : Addr} {cdg : Value} {j kt : Nat} {h₀ : ExceptHandler} {hds : List ExceptHandler} {l : List (Addr × HRes)} {p1 p2 p3 p8 pt pc : Pos} (hh : HdsR X.mg sg (h₀ :: hds) l) (h0 : ∀ f : Addr, (L2.start Ng [V.ref f])[0]? = some (some (V.ref f))) :
    GivesTo X Ng x sg g cdg [.Try [.Return (some (.Tuple [.Constant (.str told) j pc, .Call (.Name a p1) [] [] p2] kt pt)) p3] (h₀ :: hds) [] [] p8] a q (TMetR X.K told l) := by
  intro f c' s H Q tl act hc h
  refine ⟨_, pss_one (ps_try_many (X := (cxOf C8.CX0 X.prog X.w X.K X.mg X.base Ng x sg g cdg X.A X.stack s H C8.E0).nox) (Wout := fun _ _ _ _ => False)
      (tb := fun W D σ H => ∃ Ech : XK, (∀ cls d σ' H', Ech cls d H' → W cls d σ' H') ∧ σ[0]? = some (some (.ref f)) ∧ H c' = some (CodeO c' q) ∧ tl Ech H fun v H' => ([.str told, v] : List V).length ≤ sizeLine ∧ ∀ p, H' p = none → D.rt (.ref p) (upd H' p (.tup [.str told, v])))
      rfl rfl takes_none5 (fun W pn xe tk _ => ?_) (hdsR_ok (fun e he => he) hh)), ?_⟩
  · refine ⟨fun pins s' σ H' D I ⟨Ech, hW, h1, h2, h3⟩ => ?_⟩
    have hp := act W pn xe Ech p1 p2 tk hW
    exact (pss_one (ps_ret (pos := p3) (pe_tup (x1 := kt) (pos := pt) (pa_cons (pe_str (x := told) (j := j) (pos := pc)) (pa_cons hp pa_nil))))).run pins s' σ H' D I ⟨h1, h2, h3⟩
  · exact ⟨fun cls _ H' => wishR X.K Q l cls H', fun cls d σ' H' w => wishR_many rfl w, h0 f, hc, h⟩

/-- a clause's answer, as a tree -/
abbrev HRes0 := List Nat ⊕ (List Nat × List Nat)
def resD : HRes0 → D
  | .inl r => .str r
  | .inr r => .tup [.str r.1, .str r.2]
def resOk : HRes0 → Bool
  | .inl r => okS r
  | .inr r => okS r.1 && okS r.2
def resV : HRes0 → HRes
  | .inl r => .inl (strV r)
  | .inr r => .inr (strV r.1, strV r.2)
/-- _law_met(lambda: ..) -/
def eMetR (told : List Nat) (l : List (Str × HRes0)) (fb : Ga → R (Res × Ga)) : Ga → R (Res × Ga) := fun γ => match fb (pureG γ) with
  | .ok (r, _) => valOf r >>= fun d => .ok (.val (.tup [.str told, d]), γ)
  | .exc c => match l.lookup c with
    | some r => .ok (.val (resD r), γ)
    | none => .no
  | .no => .no
section
variable {X : Cx} {W : WX} {En : Ent}
/-- the clauses, by the classes' names -/
inductive ClsR (K : PySem.W.Frag) (mg : Str → Option Value) : List (Str × HRes0) → List (Addr × HRes) → Prop
  | nil : ClsR K mg [] []
  | cons {e : Str} {C : Addr} {r : HRes0} {l : List (Str × HRes0)} {l' : List (Addr × HRes)} (hm : mg e = some (.ref C)) (hz : resOk r = true) (q : ClsR K mg l l') : ClsR K mg ((e, r) :: l) ((C, resV r) :: l')
def ExMR (K : PySem.W.Frag) (mg : Str → Option Value) (l : List (Str × HRes0)) : Prop := ∀ c ∈ l.map (·.1), ∀ e ∈ l.map (·.1), ∀ (cls : Value) (C : Addr), mg c = some cls → mg e = some (.ref C) → PySem.W.exmOne K cls (.ref C) = some (decide (c = e))
theorem wishR_of {K : PySem.W.Frag} {mg : Str → Option Value} {Q : VK} {H : Hp} {c : Str} {cls : Value} {r : HRes0} (hc : mg c = some cls) : ∀ {l : List (Str × HRes0)} {l' : List (Addr × HRes)}, ClsR K mg l l' → (∀ e ∈ l.map (·.1), ∀ C : Addr, mg e = some (.ref C) → PySem.W.exmOne K cls (.ref C) = some (decide (c = e))) → l.lookup c = some r → giveR Q (resV r) H → wishR K Q l' cls H
  | _, _, .nil, _, h, _ => by simp at h
  | _, _, .cons (e := e) (r := r0) (l := l) hm hz q, hx, h, hq => by
    refine ⟨_, hx e (by simp) _ hm, fun hb => ?_, fun hb => ?_⟩
    · have hb : c = e := by simpa using hb
      subst hb
      simp only [List.lookup_cons, beq_self_eq_true, Option.some.injEq] at h
      subst h
      exact hq
    · have hb : c ≠ e := by simpa using hb
      have hb2 : (c == e) = false := by simpa using hb
      simp only [List.lookup_cons, hb2] at h
      exact wishR_of hc q (fun e' he C hC => hx e' (by simp only [List.map_cons, List.mem_cons]; exact .inr he) C hC) h hq
theorem clsR_ok {K : PySem.W.Frag} {mg : Str → Option Value} {c : Str} {r : HRes0} : ∀ {l : List (Str × HRes0)} {l' : List (Addr × HRes)}, ClsR K mg l l' → l.lookup c = some r → resOk r = true ∧ c ∈ l.map (·.1)
  | _, _, .nil, h => by simp at h
  | _, _, .cons (e := e) (r := r0) (l := l) hm hz q, h => by
    by_cases hb : c = e
    · subst hb
      simp only [List.lookup_cons, beq_self_eq_true, Option.some.injEq] at h
      subst h
      exact ⟨hz, by simp⟩
    · have hb2 : (c == e) = false := by simpa using hb
      simp only [List.lookup_cons, hb2] at h
      obtain ⟨h1, h2⟩ := clsR_ok q h
      exact ⟨h1, by simp only [List.map_cons, List.mem_cons]; exact .inr h2⟩
/-- the def that tries what it gets -/
structure MtR0 (K : PySem.W.Frag) (mg : Str → Option Value) (x a : Str) (told : List Nat) (l : List (Str × HRes0)) (st : Stmt) : Prop where
  ex : ∃ (g : Addr) (fd : FuncData) (Ng : List Str) (l' : List (Addr × HRes)), mg x = some (.ref g) ∧ L2.Fun K x x st g fd ∧ FnScope Ng [a] (defScope st) ∧ Ng[0]? = some a ∧ Vis (defScope st) a ∧ (∀ f : Addr, (L2.start Ng [V.ref f])[0]? = some (some (V.ref f))) ∧ ClsR K mg l l' ∧ ExMR K mg l ∧
    (∀ (kV doc pm : Value) (an : Option Addr) (cdv ct : Value) (us : List Value), us.length = 1 → bindArgs (PySem.W.fnOf x x (defArgs st) (defBody st) (defScope st) .none kV doc pm an cdv ct) ⟨us, []⟩ = pure (([a] : List Str).zip us)) ∧
    ∃ (j kt : Nat) (h₀ : ExceptHandler) (hds : List ExceptHandler) (p1 p2 p3 p8 pt pc : Pos), defBody st = [.Try [.Return (some (.Tuple [.Constant (.str (strV told)) j pc, .Call (.Name a p1) [] [] p2] kt pt)) p3] (h₀ :: hds) [] [] p8] ∧ HdsR mg (defScope st) (h₀ :: hds) l'
theorem ev_metR {x a : Str} {told : List Nat} {l : List (Str × HRes0)} {st : Stmt} {c Pt : Addr} {k j : Nat} {params : Arguments} {body : Expr} {scope : Scope} {fb : Ga → R (Res × Ga)} {p lpos pos : Pos} (M : MtR0 X.K X.mg x a told l st) (hto : okS told = true) (hg : Gl X x)
    (TB : TabB X.base X.mg c Pt) (hcode : X.env.code = .ref c) {lq : Str} (hT1 : (Pt, lq) ∈ En.T) (hT2 : ∀ p ∈ En.T, p.1 = Pt → p.2 = lq) (hlq : X.env.qual ++ "<lambda>" = lq) (hr : Room j X.A) (hj : k + 2 ≤ j) (L : LamS X.env.scope scope) (hdef : defaultsOf params X.env = ([], []))
    (hbind : ∀ (q : Str) (cl : List (Str × Addr)) (pm cv ctv : Value), bindArgs (PySem.W.kla_fn "<lambda>" q params body scope cl pm cv ctv) ⟨[], []⟩ = pure [])
    (hbody : ∀ (A : Around) (outer : List Env) (s : Shared) (H : Hp) (E : XK) (f c' : Addr), Bo (lamCx X A outer s H E scope f c') (fun cls d _ H' => E cls d H') k → Ev (lamCx X A outer s H E scope f c') (fun cls d _ H' => E cls d H') En body fb) (nd : X.N.Nodup)
    (hdb : (x == ("__debug__" : Str)) = false := by decide) (hd : (a == ("__debug__" : Str)) = false := by decide) (hcd : (a == ("__classdict__" : Str)) = false := by decide) :
    Ev X W En (.Call (.Name x p) [.Lambda params body scope lpos] [] pos) (eMetR told l fb) := by
  have hmT : (Pt, X.env.qual ++ "<lambda>") ∈ En.T := by rw [hlq]; exact hT1
  have hu : ∀ p ∈ En.T, p.1 = Pt → p.2 = X.env.qual ++ "<lambda>" := fun p hp hq => by rw [hlq]; exact hT2 p hp hq
  obtain ⟨g, fd, Ng, l', hm, F, Sg, hNg, hva, h0, C6, hx, hbd, j, kt, h₀, hds, p1, p2, p3, p8, pt, pc, hst, hh⟩ := M.ex
  obtain ⟨oc, od, kV, doc, pm, an, cdv, ct, osl, efd, lk, hcg⟩ := F.ex
  subst efd
  have hb : L2.Binds X.K (PySem.W.fnOf x x (defArgs st) (defBody st) (defScope st) .none kV doc pm an cdv ct) [a] [] := .all (hbd kV doc pm an cdv ct)
  have hG : GivesTo X Ng x (defScope st) g cdv (defBody st) a (X.env.qual ++ "<lambda>") (TMetR X.K (strV told) l') := by
    rw [hst]; exact metR_gives hh h0
  refine ⟨_, pe_lamN (T := En.T) (t := uL X.K X.mg En fb) hg hm F.kp lk hcg hb Sg hNg hva hG TB hcode hmT hu (hr.mono hj) L hdef hbind (fun A outer s H E f c' hr' => ?_) hdb hd hcd, fun σ H P γ Q S q => ⟨S.tab, fun H1 hN T1 => ?_⟩⟩
  · obtain ⟨t, pt', ht⟩ := hbody A outer s H E f c' ⟨rfl, nd, takes_of rfl rfl rfl rfl, hr'⟩
    exact ⟨fun pins s' σ H' Q I ⟨P, γ, S, q⟩ => pt'.run pins s' σ H' Q I (ht σ H' P γ Q S q)⟩
  · obtain ⟨k1, k2, k3⟩ := lam_keep hmT hN
    have S1 : Sat X.K X.mg En P σ H1 γ := S.stay k1 T1 k2
    refine ⟨P, pureG γ, S1.pure, ?_⟩
    have back : ∀ {P' H' : Hp} {γ' : Ga}, Stp En.T σ γ P H1 γ' P' H' → Stp En.T σ γ P H γ' P' H' := fun {P' H' γ'} T => ⟨T.ph, fun a h => by
      rcases T.new a h with h | h | h | h
      · exact .inl h
      · exact .inr (.inl (k3 a h))
      · exact .inr (.inr (.inl h))
      · exact .inr (.inr (.inr h)), fun a o h nm => T.keep a o (k1 a o h fun z => nm (.inr z)) nm, fun a h => T.dom a (k2 a h), T.mus, fun a xs h => T.tups a xs (k1 a _ h fun z => by
        obtain ⟨p, hp, rfl⟩ := List.mem_map.mp z
        obtain ⟨ps, e1, _⟩ := S.tab p hp
        rw [e1] at h; cases h)⟩
    unfold eMetR at q
    cases e : fb (pureG γ) with
    | no => rw [e] at q; exact q.elim
    | exc c =>
      rw [e] at q
      intro H' cls kp tb hc
      simp only at q
      cases e2 : l.lookup c with
      | none => rw [e2] at q; exact q.elim
      | some r =>
        rw [e2] at q
        obtain ⟨hz, hin⟩ := clsR_ok C6 e2
        have kp' : ∀ a o, H1 a = some o → a ∉ En.T.map (·.1) → H' a = some o := fun a o h n => kp a o h fun z => n (mu_pure z)
        have dm : ∀ a, H1 a ≠ none → H' a ≠ none := fun a h => by
          by_cases z : a ∈ En.T.map (·.1)
          · obtain ⟨p, hp, rfl⟩ := List.mem_map.mp z
            obtain ⟨ps, e1, _⟩ := tb p hp
            rw [e1]; simp
          · cases e1 : H1 a with
            | none => exact absurd e1 h
            | some o => rw [kp' a o e1 z]; simp
        have S2 : Sat X.K X.mg En P σ H' γ := S1.stay kp' tb dm
        have T0 : Stp En.T σ γ P H γ P H' := back ⟨Ex.refl P, fun a h => .inl h, fun a o h nm => kp' a o h fun z => nm (.inr z), dm, fun a h => h, fun a xs h => kp' a _ h fun z => by
          obtain ⟨p, hp, rfl⟩ := List.mem_map.mp z
          obtain ⟨ps, e1, _⟩ := T1 p hp
          rw [e1] at h; cases h⟩
        refine wishR_of hc C6 (fun e he C hC => hx c hin e he cls C hc hC) e2 ?_
        cases r with
        | inl r => exact q _ H' P S2 T0 (.str r (okS_of hz))
        | inr r =>
          have hz : (okS r.1 && okS r.2) = true := hz
          rw [Bool.and_eq_true] at hz
          intro p n
          have G := Gr.add (o := .tup [.str (strV r.1), .str (strV r.2)]) S2.sub n
          exact q _ _ _ (S2.gr G) (T0.trans G.stp) (.tup upd_same (.cons (.str r.1 (okS_of hz.1)) (.cons (.str r.2 (okS_of hz.2)) .nil)))
    | ok r0 =>
      obtain ⟨r, γ'⟩ := r0
      rw [e] at q
      intro v H' P' S' T' rv
      obtain ⟨d, e3, q⟩ := valOf_bind (C := PostG X W En (repE X) σ P H γ Q) (fun z => z) q
      subst e3
      have rv : Rep X.K X.mg P' d v := rv
      have S3 := S1.restore T' S'
      refine ⟨by show 2 ≤ sizeLine; decide, fun p hp => ?_⟩
      have nP := fresh_back S3.sub hp
      have G := Gr.add (o := .tup [.str (strV told), v]) S3.sub hp
      have T3 : Stp En.T σ γ P H1 γ P' H' := ⟨T'.ph, fun a h => by
        rcases T'.new a h with h | h | h | h
        · exact .inl h
        · exact .inr (.inl h)
        · exact .inr (.inr (.inl (.inr (mu_pure h))))
        · exact .inr (.inr (.inr h)), fun a o h nm => T'.keep a o h fun z => nm (.inr (mu_pure z)), T'.dom, fun a h => h, T'.tups⟩
      exact q _ _ _ (S3.gr G) ((back T3).trans G.stp) (.tup upd_same (.cons (.str told (okS_of hto)) (.cons (rv.mono (Ex.new nP)) .nil)))
end
end DL
namespace DL
open PySem L2 Evl PySem.Spec PyProof.Rows LamX
theorem exmR_of {K : PySem.W.Frag} {mg : Str → Option Value} {names : List (Str × HRes0)} {l : List (Str × Addr)} (hm : ∀ p ∈ l, mg p.1 = some (.ref p.2)) (hx : (l.all fun p => l.all fun q => PySem.W.exmOne K (.ref p.2) (.ref q.2) == some (decide (p.1 = q.1))) = true) (hl : l.map (·.1) = names.map (·.1)) : ExMR K mg names := fun c hc e he cls C mc me => by
  rw [← hl] at hc he
  obtain ⟨p, hp, rfl⟩ := List.mem_map.mp hc
  obtain ⟨q, hq, rfl⟩ := List.mem_map.mp he
  rw [hm p hp] at mc
  rw [hm q hq] at me
  cases mc; cases me
  have := List.all_eq_true.mp (List.all_eq_true.mp hx p hp) q hq
  simpa using this
end DL
end
section
set_option Elab.async false
set_option linter.all false
set_option maxRecDepth 100000
namespace DL
open PySem L2 Evl PySem.Spec PyProof.Rows

theorem sw_trueD {kx vx : Expr} {gs : List Comprehension} {scope : Scope} {pos py : Pos} {y : Str} {l : Nat} {env : Env} (hk : env.scope.kind = .function) (hy : env.scope.names.lookup y = some .local) (hl : (py.line == pos.line) = true)
    (ha : (scope.names.any fun (n, k) => n == y && (k == .local || k == .cell)) = false) : swapsWith (.DictComp kx vx gs scope pos) (some (.Name y py)) l env = pure true := by
  have ky : env.kindOf y = some .local := hy
  have hb : env.blockKind = .function := by unfold Env.blockKind; rw [hk]; rfl
  unfold swapsWith
  simp only [hb, ky, ha, Expr.pos, hl]
  rfl
theorem two_T0 {a b : Addr} {q r : Str} (h : a ≠ b) : ∀ p ∈ [(a, q), (b, r)], p.1 = a → p.2 = q := fun p hp e => by
  rcases List.mem_cons.mp hp with z | z
  · rw [z]
  · rw [List.mem_singleton.mp z] at e; exact absurd e.symm h
theorem two_T1 {a b : Addr} {q r : Str} (h : a ≠ b) : ∀ p ∈ [(a, q), (b, r)], p.1 = b → p.2 = r := fun p hp e => by
  rcases List.mem_cons.mp hp with z | z
  · rw [z] at e; exact absurd e h
  · rw [List.mem_singleton.mp z]
/-! ### d.get(k), d.get(k, x) -/
section
variable {X : Cx} {W : WX} {En : Ent} {e b o x : Expr} {es : List Expr} {pos p1 p2 p3 apos cpos : Pos} {f fa fb fo fx : Ga → R (Res × Ga)}
def dGetO (d k : D) : Option (Option D) := match d with
  | .dct t ks vs => match k.key with
    | some kk => if kk.isT = t then some (dLook ks vs kk) else none
    | none => none
  | _ => none
theorem get_go {P H : Hp} {d k : D} {a : Addr} {y : V} {r : Option D} (e : Ex P H) (h1 : RepW X.K X.mg P H d (.ref a)) (h2 : RepW X.K X.mg P H k y) (hr : dGetO d k = some r) : ∃ o, DGet H a y o ∧ ((r = none ∧ o = none) ∨ ∃ z v, r = some z ∧ o = some v ∧ Rep X.K X.mg P z v) := by
  unfold dGetO at hr
  split at hr
  · rename_i t ks vs
    cases e1 : k.key with
    | none => rw [e1] at hr; cases hr
    | some kk =>
      rw [e1] at hr
      simp only [Option.ite_none_right_eq_some, Option.some.injEq] at hr
      obtain ⟨hb, hl⟩ := hr
      have := dget_of (K := X.K) (mg := X.mg) e e1 h2 (hb ▸ h1)
      cases e2 : dLook ks vs kk with
      | none => rw [e2] at hl; subst hl; exact ⟨none, this.2 e2, .inl ⟨rfl, rfl⟩⟩
      | some z => rw [e2] at hl; subst hl; obtain ⟨v, g, rz⟩ := this.1 z e2; exact ⟨some v, g, .inr ⟨z, v, rfl, rfl, rz⟩⟩
  · cases hr
theorem isD_of {P H : Hp} {d : D} {v : V} (e : Ex P H) (h : RepW X.K X.mg P H d v) (hd : ∃ t ks vs, d = .dct t ks vs) : ∃ a, v = .ref a ∧ IsD H a := by
  obtain ⟨t, ks, vs, rfl⟩ := hd
  cases h with
  | dctK h k r => exact ⟨_, rfl, .inl ⟨_, h⟩⟩
  | dctT h k r => exact ⟨_, rfl, .inr ⟨_, h⟩⟩
def D.isDct : D → Bool
  | .dct _ _ _ => true
  | _ => false
theorem D.isDct_of {d : D} (h : d.isDct = true) : ∃ t ks vs, d = .dct t ks vs := by
  cases d with
  | dct t ks vs => exact ⟨t, ks, vs, rfl⟩
  | _ => cases h
/-- d.get(k, x) -/
def eGet2 (fo fk fx : Ga → R (Res × Ga)) : Ga → R (Res × Ga) := fun γ => fo γ >>= fun p => deref p.2 p.1 >>= fun d0 => if d0.isDct = true then fk p.2 >>= fun q => fx q.2 >>= fun r => valOf r.1 >>= fun z => deref r.2 p.1 >>= fun d => deref r.2 q.1 >>= fun k => ofO (dGetO d k) >>= fun o => .ok (.val (o.getD z), r.2) else .no
theorem ev_get2 (hu : X.A.units + 64 < cLine) (ho : Ev X W En o fo) (hk : Ev X W En e f) (hx : Ev X W En x fx)
    (base : attributeBase o "get" X.env (eval o X.env) = eval o X.env := by rfl)
    (few : ((backTo cpos (starEach [e, x] X.env)).all (fun x => !x.1) && (backToKw cpos (keywordEach [] X.env)).all (fun x => x.1.isSome)
      && decide (([e, x] : List Expr).length + ([] : List Keyword).length + (if ([] : List Keyword).isEmpty then 0 else 1) < 30)) = true := by rfl)
    (line : (apos.endLine == cpos.line) = true := by rfl)
    (trees : backTo cpos (starEach [e, x] X.env) = [(false, eval e X.env), (false, eval x X.env)] := by rfl) : Ev X W En (.Call (.Attribute o "get" apos) [e, x] [] cpos) (eGet2 fo f fx) := by
  obtain ⟨to, po, ho⟩ := ho
  obtain ⟨tk, pk, hk⟩ := hk
  obtain ⟨tx, px, hx⟩ := hx
  refine ⟨_, pe_dget2 (hu1 hu) po pk px ⟨base, few, line, trees⟩, fun σ H P γ Q S q => ho σ H P γ _ S ?_⟩
  unfold eGet2 at q
  cases e1 : fo γ with
  | no => rw [e1] at q; exact q
  | exc c => rw [e1] at q; exact q
  | ok r =>
    obtain ⟨ro, γ1⟩ := r
    rw [e1, R.ok_bind] at q
    intro vo H1 P1 S1 T1 r1
    have q1 := PostG.later T1 (fun _ _ _ _ _ h => h) q
    rcases deref_cases γ1 ro with ⟨d0, e2⟩ | e2
    · rw [e2, R.ok_bind] at q1
      split at q1
      · rename_i hd
        obtain ⟨a, rfl, isd⟩ := isD_of S1.sub (S1.w r1 e2) (D.isDct_of hd)
        refine ⟨a, rfl, isd, hk σ H1 P1 γ1 _ S1 ?_⟩
        cases e3 : f γ1 with
        | no => rw [e3] at q1; exact q1
        | exc c => rw [e3] at q1; exact q1
        | ok r =>
          obtain ⟨rk, γ2⟩ := r
          rw [e3, R.ok_bind] at q1
          intro vk H2 P2 S2 T2 r2
          have q2 := PostG.later T2 (fun _ _ _ _ _ h => h) q1
          refine hx σ H2 P2 γ2 _ S2 ?_
          cases e4 : fx γ2 with
          | no => rw [e4] at q2; exact q2
          | exc c => rw [e4] at q2; exact q2
          | ok r =>
            obtain ⟨rx, γ3⟩ := r
            rw [e4, R.ok_bind] at q2
            intro vx H3 P3 S3 T3 r3
            have q3 := PostG.later T3 (fun _ _ _ _ _ h => h) q2
            obtain ⟨z, e5, q3⟩ := valOf_bind (C := PostG X W En (repE X) σ P3 H3 γ3 Q) (fun z => z) q3
            simp only at e5
            subst e5
            have r3 : Rep X.K X.mg P3 z vx := r3
            simp only at q3
            rcases deref_cases γ3 ro with ⟨d, e6⟩ | e6
            · rcases deref_cases γ3 rk with ⟨k, e7⟩ | e7
              · rw [e6, R.ok_bind, e7, R.ok_bind] at q3
                rcases ofO_cases (dGetO d k) with ⟨oo, e8, e9⟩ | e8
                · rw [e9, R.ok_bind] at q3
                  obtain ⟨vv, g, cs⟩ := get_go (X := X) S3.sub (S3.w ((r1.mono T2.ph).mono T3.ph) e6) (S3.w (r2.mono T3.ph) e7) e8
                  refine ⟨vv, g, ?_⟩
                  rcases cs with ⟨c1, c2⟩ | ⟨zz, v, c1, c2, c3⟩
                  · subst c1 c2; exact q3 _ H3 P3 S3 .refl r3
                  · subst c1 c2; exact q3 _ H3 P3 S3 .refl c3
                · rw [e8] at q3; exact q3.elim
              · rw [e6, R.ok_bind, e7] at q3; exact q3.elim
            · rw [e6] at q3; exact q3.elim
      · exact q1.elim
    · rw [e2] at q1; exact q1.elim
end
end DL
end
section
set_option Elab.async false
set_option linter.all false
set_option maxRecDepth 100000
namespace DL
open PySem L2 Evl PySem.Spec PyProof.Rows

/-! ### zip, enumerate over lists, tuples, texts -/
inductive Src where
  | l (a : Addr) | t (a : Addr) | s (x : Str)
def Src.v : Src → V
  | .l a => .ref a
  | .t a => .ref a
  | .s x => .str x
def signV (x : Str) : List V := x.cps.toList.map fun c => V.str ⟨#[c]⟩
def Src.items (K : PySem.W.Frag) (H : Hp) : Src → List V → Prop
  | .l a, xs => SqL K H a xs
  | .t a, xs => SqT K H a xs
  | .s x, xs => xs = signV x
def Src.at_ (tk : Tok) (it : Addr) (i : Nat) (h : Heap) : Src → Prop
  | .l a => h.IsListIter it a i
  | .t a => h.IsTupleIter it a i
  | .s x => h.IsStrIter it (strIterType x) x tk i
def Src.cell (it : Addr) : Src → List Addr
  | .l a => [it, a]
  | .t a => [it, a]
  | .s _ => [it]
def Src.below (N : Nat) : Src → Prop
  | .l a => a < N
  | .t a => a < N
  | .s _ => True
theorem Src.inj {X : Cx} {pins : List (Addr × Obj)} {σ : L2.St} {H : Hp} {s : Shared} (I : Inv X pins σ H s) : ∀ {S : Src} {xs ys : List V}, S.items X.K H xs → S.items X.K H ys → xs = ys
  | .l _, _, _, h, h' => I.list_inj h h'
  | .t _, _, _, h, h' => I.tuple_inj h h'
  | .s _, _, _, h, h' => h.trans h'.symm
/-- an iterator over it, at the heap as it stands -/
structure SrcD (P : Program) (w : World) (A : Around) (S : Src) (tk : Tok) (it : Addr) (xs : List V) (Pv : Nat → Value → Prop) (St : Nat → Heap → Prop) : Prop where
  draws : Draws P w A it (S.cell it) xs.length Pv St
  back : ∀ i h, St i h → S.at_ tk it i h
  val : ∀ i u, Pv i u → ∃ x, xs[i]? = some x ∧ RelV x u
theorem Src.draws {X : Cx} {pins : List (Addr × Obj)} {σ : L2.St} {H : Hp} {s : Shared} {A : Around} (hh : A.handled = none) (I : Inv X pins σ H s) {S : Src} {tk : Tok} {xs : List V} {it : Addr} (hs : S.items X.K H xs) (hb : S.below it) :
    ∃ Pv St, SrcD X.prog X.w A S tk it xs Pv St ∧ ∀ i, S.at_ tk it i s.heap → St i s.heap := by
  cases S with
  | l a =>
    obtain ⟨its, rv, p, _⟩ := I.list hs
    have hl : its.toArray.size = xs.length := by rw [List.size_toArray]; exact rv.length.symm
    refine ⟨_, _, ⟨hl ▸ Draws.list hh it a (Nat.ne_of_lt hb) its.toArray, fun i h st => st.1, fun i u hu => ?_⟩, fun i h => ⟨h, p.isList⟩⟩
    have hi : i < xs.length := by
      have := (List.getElem?_eq_some_iff.mp (show its[i]? = some u by simpa using hu)).1
      rw [rv.length]; exact this
    obtain ⟨u', hu', ru⟩ := rv.get (List.getElem?_eq_getElem hi)
    have : u' = u := by
      have h2 : its[i]? = some u := by simpa using hu
      rw [hu'] at h2; exact Option.some.inj h2
    subst this
    exact ⟨_, List.getElem?_eq_getElem hi, ru⟩
  | t a =>
    obtain ⟨its, rv, p, _⟩ := I.tuple hs
    have hl : its.toArray.size = xs.length := by rw [List.size_toArray]; exact rv.length.symm
    refine ⟨_, _, ⟨hl ▸ Draws.tuple hh it a (Nat.ne_of_lt hb) its.toArray, fun i h st => st.1, fun i u hu => ?_⟩, fun i h => ⟨h, (show s.heap.IsTuple a its.toArray from p)⟩⟩
    have hi : i < xs.length := by
      have := (List.getElem?_eq_some_iff.mp (show its[i]? = some u by simpa using hu)).1
      rw [rv.length]; exact this
    obtain ⟨u', hu', ru⟩ := rv.get (List.getElem?_eq_getElem hi)
    have : u' = u := by
      have h2 : its[i]? = some u := by simpa using hu
      rw [hu'] at h2; exact Option.some.inj h2
    subst this
    exact ⟨_, List.getElem?_eq_getElem hi, ru⟩
  | s x =>
    have hs : xs = signV x := hs
    subst hs
    have hl : x.cps.size = (signV x).length := by simp [signV]
    refine ⟨_, _, ⟨hl ▸ Draws.text hh it x tk, fun i h st => st, fun i u ⟨c, tq, hc, hu⟩ => ⟨V.str ⟨#[c]⟩, ?_, tq, hu⟩⟩, fun i h => h⟩
    unfold signV
    rw [List.getElem?_map, Array.getElem?_toList, hc]; rfl
theorem Src.keep {S : Src} {tk : Tok} {it : Addr} {i : Nat} {h h' : Heap} (a : S.at_ tk it i h) (k : ∀ o, h.get? it = some o → h'.get? it = some o) : S.at_ tk it i h' := by
  cases S with
  | l b =>
    have a : h.IsListIter it b i := a
    exact a.at k
  | t b =>
    have a : h.IsTupleIter it b i := a
    exact a.at k
  | s x => obtain ⟨o, ho, r⟩ := a; exact ⟨o, k o ho, r⟩
theorem Src.obj {S : Src} {tk : Tok} {it : Addr} {i : Nat} {h : Heap} (a : S.at_ tk it i h) : ∃ o, h.get? it = some o ∧ ∀ v, o.data ≠ .cell v := by
  cases S with
  | l b => obtain ⟨o, e, _, d⟩ := a; exact ⟨o, e, fun v q => by rw [d] at q; cases q⟩
  | t b => obtain ⟨o, e, _, d⟩ := a; exact ⟨o, e, fun v q => by rw [d] at q; cases q⟩
  | s x => obtain ⟨o, e, _, d⟩ := a; exact ⟨o, e, fun v q => by rw [d] at q; cases q⟩
/-- what zip yields -/
def ItzG (K : PySem.W.Frag) (S1 S2 : Src) : It :=
  ⟨fun i H => ∃ (xs ys : List V) (x y : V), S1.items K H xs ∧ S2.items K H ys ∧ xs[i]? = some x ∧ ys[i]? = some y,
    fun i H v H' => ∃ T x y, v = .ref T ∧ H T = none ∧ H' = upd H T (.tup [x, y]) ∧ (∀ xs, S1.items K H xs → xs[i]? = some x) ∧ ∀ ys, S2.items K H ys → ys[i]? = some y,
    fun i H => ∃ xs ys : List V, S1.items K H xs ∧ S2.items K H ys ∧ i = min xs.length ys.length⟩
theorem Src.sep {N : Nat} {S1 S2 : Src} (h1 : S1.below N) (h2 : S2.below N) : ZipSep2 (N + 4) (N + 2) (N + 3) N (N + 1) (S1.cell N) (S2.cell (N + 1)) := by
  have c1 : ∃ f, S1.cell N = N :: f ∧ ∀ b ∈ f, b < N := by
    cases S1 with
    | l a => exact ⟨[a], rfl, fun b hb => by rw [List.mem_singleton.mp hb]; exact h1⟩
    | t a => exact ⟨[a], rfl, fun b hb => by rw [List.mem_singleton.mp hb]; exact h1⟩
    | s x => exact ⟨[], rfl, fun b hb => by cases hb⟩
  have c2 : ∃ f, S2.cell (N + 1) = (N + 1) :: f ∧ ∀ b ∈ f, b < N := by
    cases S2 with
    | l a => exact ⟨[a], rfl, fun b hb => by rw [List.mem_singleton.mp hb]; exact h2⟩
    | t a => exact ⟨[a], rfl, fun b hb => by rw [List.mem_singleton.mp hb]; exact h2⟩
    | s x => exact ⟨[], rfl, fun b hb => by cases hb⟩
  obtain ⟨f1, e1, g1⟩ := c1
  obtain ⟨f2, e2, g2⟩ := c2
  rw [e1, e2]
  exact zip_sep2 g1 g2
theorem Src.belowS {N : Nat} {S : Src} (h : S.below N) : S.below (N + 1) := by
  cases S with
  | l a => exact Nat.lt_succ_of_lt h
  | t a => exact Nat.lt_succ_of_lt h
  | s x => trivial
theorem mem_wr {N c : Addr} (z : c ∈ [N + 4, N + 3, N, N + 1]) : c ∈ [N + 4, N + 2, N + 3, N, N + 1] := by
  simp only [List.mem_cons, List.not_mem_nil, or_false] at z ⊢
  rcases z with h | h | h | h <;> simp [h]
theorem turn_zipG {P : Program} {w : World} {K : PySem.W.Frag} {elts : List Expr} {kk : Nat} {tpos : Pos} {N : Nat} {S1 S2 : Src} {t1 t2 : Tok} (h1 : S1.below N) (h2 : S2.below N) :
    Turn P w K (.Tuple elts kk tpos) (ItzG K S1 S2) [N + 4, N + 2, N + 3, N, N + 1] (N + 4) (fun i h => IsZip h (N + 4) (N + 2) (N + 3) .none ∧ IsTupOf2 h (N + 2) (.ref N) (.ref (N + 1)) ∧ (∃ x y, IsTupOf2 h (N + 3) x y) ∧ S1.at_ t1 N i h ∧ S2.at_ t2 (N + 1) i h) where
  mem := by simp
  obj := fun i h st c hc => by
    obtain ⟨hz, hTI, ⟨x, y, hTO⟩, s1, s2⟩ := st
    have e' : c = N + 4 ∨ c = N + 2 ∨ c = N + 3 ∨ c = N ∨ c = N + 1 := by simpa using hc
    rcases e' with q | q | q | q | q
    · rw [q]; exact ⟨_, hz, fun v q => nomatch q⟩
    · rw [q]; exact ⟨_, hTI, fun v q => nomatch q⟩
    · rw [q]; exact ⟨_, hTO, fun v q => nomatch q⟩
    · rw [q]; exact Src.obj s1
    · rw [q]; exact Src.obj s2
  keep := fun i h h' st k => by
    obtain ⟨hz, hTI, ⟨x, y, hTO⟩, s1, s2⟩ := st
    exact ⟨k (N + 4) (by simp) _ hz, k (N + 2) (by simp) _ hTI, ⟨x, y, k (N + 3) (by simp) _ hTO⟩, Src.keep s1 fun o q => k N (by simp) o q, Src.keep s2 fun o q => k (N + 1) (by simp) o q⟩
  item := by
    intro X hP hw hK hc i pins s σ H E I hf st hg
    subst hP hw hK
    obtain ⟨hz, hTI, hTO, s1, s2⟩ := st
    obtain ⟨xs, ys, x, y, hqx, hqy, hx, hy⟩ := hg
    have hh : X.A.in1.handled = none := I.ok.hd hc
    obtain ⟨P1, St1, D1, f1⟩ := Src.draws (tk := t1) hh I hqx h1
    obtain ⟨P2, St2, D2, f2⟩ := Src.draws (tk := t2) (it := N + 1) hh I hqy (Src.belowS h2)
    have WK := WalksT.zipD2 (Src.sep h1 h2) D1.draws D2.draws
    have li : i < xs.length := (List.getElem?_eq_some_iff.mp hx).1
    have lj : i < ys.length := (List.getElem?_eq_some_iff.mp hy).1
    refine WK.item i s _ _ (by omega) ⟨hz, hTI, hTO, f1 i s1, f2 i s2⟩ fun T vals h' tk pv hT hTu mid kp => ⟨_, rfl, ?_⟩
    obtain ⟨u1, u2, p1, p2, rfl⟩ := pv
    have ap := WK.apart i T h' mid
    refine WK.go elts kk tpos i T { s with heap := h', toks := tk } _ _ mid fun h'' st'' kp'' => ?_
    obtain ⟨x', hx', rx⟩ := D1.val i u1 p1
    obtain ⟨y', hy', ry⟩ := D2.val i u2 p2
    rw [hx] at hx'; cases hx'
    rw [hy] at hy'; cases hy'
    obtain ⟨oT, eT, cT, nT, dT⟩ := hTu
    have hT2 : h''.get? T = some oT := kp'' T _ ap eT
    have new : ObjOk X.prog X.w (upd H T (.tup [x, y])) h'' T (.tup [x, y]) :=
      ⟨by show 2 ≤ sizeLine; decide, [u1, u2], .cons rx (.cons ry .nil), ⟨oT, hT2, cT, nT, dT⟩⟩
    have I1 : Inv X pins σ (upd H T (.tup [x, y])) { s with heap := h'', toks := tk } :=
      I.turnedNew (t' := tk) (ch := [N + 4, N + 2, N + 3, N, N + 1]) (fun c o hb q => kp'' c o (fun z => hb (mem_wr z)) (kp c o (fun z => hb (mem_wr z)) q)) hf hT new
    refine ⟨.ref T, _, I1, rfl, ⟨T, x, y, rfl, I.hok.fresh hT, rfl, fun l hl => by rw [Src.inj I hl hqx]; exact hx, fun l hl => by rw [Src.inj I hl hqy]; exact hy⟩, ⟨st''.1, st''.2.1, st''.2.2.1, D1.back _ _ st''.2.2.2.1, D2.back _ _ st''.2.2.2.2⟩, fun c hcm => ?_⟩
    have hlt : c < s.heap.objs.size := by
      have e' : c = N + 4 ∨ c = N + 2 ∨ c = N + 3 ∨ c = N ∨ c = N + 1 := by simpa using hcm
      obtain ⟨a1, a2, hTO⟩ := hTO
      rcases e' with q | q | q | q | q
      · rw [q]; exact Heap.lt_size hz
      · rw [q]; exact Heap.lt_size hTI
      · rw [q]; exact Heap.lt_size hTO
      · rw [q]; obtain ⟨_, e1, _⟩ := Src.obj s1; exact Heap.lt_size e1
      · rw [q]; obtain ⟨_, e2, _⟩ := Src.obj s2; exact Heap.lt_size e2
    rw [upd_ne (Nat.ne_of_lt (Nat.lt_of_lt_of_le hlt hT))]
    exact (hf c hcm).1
  done := by
    intro X hP hw hK hc i pins s σ H E I hf st hg
    subst hP hw hK
    obtain ⟨hz, hTI, hTO, s1, s2⟩ := st
    obtain ⟨xs, ys, hqx, hqy, hend⟩ := hg
    have hh : X.A.in1.handled = none := I.ok.hd hc
    obtain ⟨P1, St1, D1, f1⟩ := Src.draws (tk := t1) hh I hqx h1
    obtain ⟨P2, St2, D2, f2⟩ := Src.draws (tk := t2) (it := N + 1) hh I hqy (Src.belowS h2)
    have WK := WalksT.zipD2 (Src.sep h1 h2) D1.draws D2.draws
    subst hend
    exact WK.done s _ _ ⟨hz, hTI, hTO, f1 _ s1, f2 _ s2⟩ fun h' tk kp => ⟨rfl, I.turnedL (t' := tk) (ch := [N + 4, N + 2, N + 3, N, N + 1]) (fun c o hb q => kp c o (fun z => hb (mem_wr z)) q) hf⟩
  self := fun A i s Q E st h => wpAny_pyIter_zip st.1 h
/-! ### as an expression -/
theorem Src.begin {X : Cx} {pins : List (Addr × Obj)} {σ : L2.St} {H : Hp} {s : Shared} (I : Inv X pins σ H s) {S : Src} {xs : List V} {u : Value} (hs : S.items X.K H xs) (r : RelV S.v u) :
    ∃ o HH tk, Begins u o HH ∧ HH s.heap ∧ S.below s.heap.objs.size ∧ ∀ it h, h.get? it = some o → S.at_ tk it 0 h := by
  cases S with
  | l a =>
    cases r
    obtain ⟨its, rv, p, _⟩ := I.list hs
    exact ⟨_, _, 0, begins_list a its.toArray, p.isList, p.lt, fun it h e => ⟨_, e, rfl, rfl⟩⟩
  | t a =>
    cases r
    obtain ⟨its, rv, p, _⟩ := I.tuple hs
    obtain ⟨o, e, _⟩ := id p
    exact ⟨_, _, 0, begins_tuple a its.toArray, p, Heap.lt_size e, fun it h e => ⟨_, e, rfl, rfl⟩⟩
  | s x =>
    obtain ⟨tk, rfl⟩ := r
    exact ⟨_, _, tk, begins_text x tk, trivial, trivial, fun it h e => ⟨_, e, rfl, rfl⟩⟩
def iZipG (K : PySem.W.Frag) (ta : TA) : TI := fun σ H R => ta σ H fun vs H1 => ∃ (S1 S2 : Src) (xs ys : List V), vs = [S1.v, S2.v] ∧ S1.items K H1 xs ∧ S2.items K H1 ys ∧ R (ItzG K S1 S2) H1
theorem pi_zipG {X : Cx} {e e2 : Expr} {ta : TA} {p pos tpos : Pos} {elts : List Expr} {kk : Nat} (hg : Gl X "zip") (hm : X.mg "zip" = none) (ha : PA X [e, e2] ta)
    (hs : starEach [e, e2] X.env = (false, eval e X.env) :: starEach [e2] X.env := by rfl) (hpl : (backTo pos (starEach [e2] X.env)).any (·.1) = false := by rfl) :
    PI X (.Tuple elts kk tpos) (.Call (.Name "zip" p) [e, e2] [] pos) (iZipG X.K ta) := by
  refine ⟨fun pins s σ H R I h => ?_⟩
  refine Call_ (ld_blt I hg hm PyProof.Rows.boot_zip (PyProof.Rows.callWith_type1 (thn (ha.run pos pins s σ H _ I h) fun us s1 ⟨vs, H1, I1, r1, q1⟩ => ?_) hs hpl))
  obtain ⟨S1, S2, xs, ys, ex, hqx, hqy, q⟩ := q1
  subst ex
  cases r1 with
  | cons r rr =>
    cases rr with
    | cons r' rr =>
      cases rr
      have fresh5 : ∀ c, c ∈ [s1.heap.objs.size + 4, s1.heap.objs.size + 2, s1.heap.objs.size + 3, s1.heap.objs.size, s1.heap.objs.size + 1] → FpOk X pins H1 c := fun c hcm => by
        have e' : c = s1.heap.objs.size + 4 ∨ c = s1.heap.objs.size + 2 ∨ c = s1.heap.objs.size + 3 ∨ c = s1.heap.objs.size ∨ c = s1.heap.objs.size + 1 := by simpa using hcm
        have hle : s1.heap.objs.size ≤ c := by
          rcases e' with z | z | z | z | z
          · rw [z]; exact Nat.le_add_right _ _
          · rw [z]; exact Nat.le_add_right _ _
          · rw [z]; exact Nat.le_add_right _ _
          · rw [z]; exact Nat.le_refl _
          · rw [z]; exact Nat.le_add_right _ _
        exact I1.fpOk hle (I1.hok.fresh hle)
      obtain ⟨o1, HH1, t1, B1, b1, l1, a1⟩ := Src.begin I1 hqx r
      obtain ⟨o2, HH2, t2, B2, b2, l2, a2⟩ := Src.begin I1 hqy r'
      refine zip_begins2 B1 B2 b1 b2 fun h' hz hTI hTO h1 h2 hsz hk => wpAny_pyIter_zip hz ?_
      have I2 : Inv X pins σ H1 { s1 with heap := h' } := I1.kept (t' := s1.toks) hk
      exact ⟨s1.heap.objs.size + 4, [s1.heap.objs.size + 4, s1.heap.objs.size + 2, s1.heap.objs.size + 3, s1.heap.objs.size, s1.heap.objs.size + 1], _, _, H1, rfl, I2, turn_zipG l1 l2, ⟨hz, hTI, ⟨_, _, hTO⟩, a1 _ _ h1, a2 _ _ h2⟩, fresh5, q⟩
/-- a value's source -/
def seqD : D → Option (List D)
  | .lst ds => some ds
  | .tup ds => some ds
  | .scr ds => some ds
  | .str s => some (signs s)
  | _ => none
theorem sign_rep {K : PySem.W.Frag} {mg : Str → Option Value} {P : Hp} : ∀ {s : List Nat}, RepL K mg P (signs s) (signV (strV s))
  | [] => .nil
  | c :: s => .cons (.str [c] (by show 1 ≤ sizeLine; decide)) (sign_rep (s := s))
theorem src_of {K : PySem.W.Frag} {mg : Str → Option Value} {P : Hp} {d : D} {ds : List D} {v : V} (h : Rep K mg P d v) (hd : seqD d = some ds) : ∃ S vs, v = Src.v S ∧ RepL K mg P ds vs ∧ ∀ H, Ex P H → S.items K H vs := by
  cases h with
  | lst h r => cases hd; exact ⟨.l _, _, rfl, r, fun H e => .of (e _ _ h)⟩
  | tup h r => cases hd; exact ⟨.t _, _, rfl, r, fun H e => .of (e _ _ h)⟩
  | scr h r => cases hd; exact ⟨.l _, _, rfl, r, fun H e => ex_l e h⟩
  | str s hs => cases hd; exact ⟨.s _, _, rfl, sign_rep, fun H e => rfl⟩
  | _ => cases hd
theorem items_zipG {K : PySem.W.Frag} {mg : Str → Option Value} {P : Hp} {S1 S2 : Src} {ds es : List D} {vs us : List V} (h : ∀ H, Ex P H → S1.items K H vs) (r : RepL K mg P ds vs) (h' : ∀ H, Ex P H → S2.items K H us) (r' : RepL K mg P es us) : ItemsOf K mg (ItzG K S1 S2) (pairsD ds es) P := by
  refine ⟨fun i d hi P1 H1 x1 x2 => ?_, fun P1 H1 x1 x2 => ⟨vs, us, h _ (x1.trans x2), h' _ (x1.trans x2), by rw [pairsD_len, ← r.length, ← r'.length]⟩⟩
  obtain ⟨kk, vv, f1, f2, f3⟩ := pairsD_get hi
  subst f3
  obtain ⟨v, g1, g2⟩ := r.get f1
  obtain ⟨u, g3, g4⟩ := r'.get f2
  refine ⟨⟨vs, us, v, u, h _ (x1.trans x2), h' _ (x1.trans x2), g1, g3⟩, fun x H2 ⟨T, x', y', ex, hT, eH, y1, y2⟩ => ?_⟩
  subst ex eH
  have q1 := y1 vs (h _ (x1.trans x2))
  have q2 := y2 us (h' _ (x1.trans x2))
  rw [g1] at q1; cases q1
  rw [g3] at q2; cases q2
  have nP := fresh_back x2 hT
  exact ⟨_, Gr.add x2 hT, .tup upd_same (.cons (g2.mono (x1.trans (Ex.new nP))) (.cons (g4.mono (x1.trans (Ex.new nP))) .nil))⟩
def dZipG : List D → Option (List D)
  | [a, b] => match seqD a with
    | some ds => match seqD b with
      | some es => some (pairsD ds es)
      | none => none
    | none => none
  | _ => none
section
variable {X : Cx} {W : WX} {En : Ent} {a b : Expr} {pos p : Pos} {g : Ga → R (List Res × Ga)}
theorem ei_zipG {elts : List Expr} {kk : Nat} {tpos : Pos} (hg : Gl X "zip") (hm : X.mg "zip" = none) (ha : EvA X W En [a, b] g) (hs : starEach [a, b] X.env = (false, eval a X.env) :: starEach [b] X.env := by rfl) (hpl : (backTo pos (starEach [b] X.env)).any (·.1) = false := by rfl) :
    EvI X W En (.Tuple elts kk tpos) (.Call (.Name "zip" p) [a, b] [] pos) (iArgs dZipG g) := by
  obtain ⟨t, pa, h⟩ := ha
  refine ⟨_, pi_zipG hg hm pa hs hpl, fun σ H P γ Rr S q => iargs_go h S q fun P2 H2 ds vs xs x r e k => ?_⟩
  unfold dZipG at e
  split at e
  · rename_i d1 d2
    cases r with
    | cons r0 r1 =>
      cases r1 with
      | cons r1 r2 =>
        cases r2
        cases e1 : seqD d1 with
        | none => rw [e1] at e; cases e
        | some ds =>
          rw [e1] at e
          cases e2 : seqD d2 with
          | none => rw [e2] at e; cases e
          | some es =>
            rw [e2] at e; cases e
            obtain ⟨S1, vs, z1, rl1, i1⟩ := src_of r0 e1
            obtain ⟨S2, us, z2, rl2, i2⟩ := src_of r1 e2
            exact ⟨S1, S2, vs, us, by rw [z1, z2], i1 _ x, i2 _ x, k _ (items_zipG i1 rl1 i2 rl2)⟩
  · cases e
end
end DL
end
section
set_option Elab.async false
set_option linter.all false
set_option maxRecDepth 100000
namespace DL
open PySem L2 Evl PySem.Spec PyProof.Rows

/-! ### enumerate over any sequence -/
set_option maxHeartbeats 1000000 in
theorem meets_enumB {v : Value} {o : Obj} {HH : Heap → Prop} (B : Begins v o HH) :
    Meets (Builtin.«enumerate.__new__» ⟨[.type "enumerate", v], []⟩) (fun _ R s => HH s.heap ∧
      R (.ok (.ret (.ref (s.heap.push o).objs.size))) { s with heap := (s.heap.push o).push { cls := .type "enumerate", data := .fields #[.none, .bool false, .ref s.heap.objs.size, rawInt 0, .none, .none] } }) :=
  .of_wp fun prog w A R s h => by
    obtain ⟨hp, g, d, tk, os⟩ := s; obtain ⟨h1, h⟩ := h
    have hsub := sub_enumerate
    have q1 : ∀ {A' : Around} {E : Value → Shared → Prop} {Q : Value → Shared → Prop}, Q (.ref hp.objs.size) ⟨hp.push o, g, d, tk, os⟩ → wpAny (model prog w) A' (pyIter v) Q E ⟨hp, g, d, tk, os⟩ :=
      fun q => B.iter prog w _ _ ⟨hp, g, d, tk, os⟩ _ h1 q
    wp_walk using q1
    refine wpAny_stack_any fun st => wpAny_pure ?_
    split
    · rename_i c _ _ _ _ _
      cases (c == Value.type "enumerate")
      · wp_walk using q1
        exact ⟨_, rfl, h⟩
      · wp_walk using q1
        exact ⟨_, rfl, h⟩
    · wp_walk using q1
      exact ⟨_, rfl, h⟩
section
variable {prog : Program} {w : World} {A : Around} {E : Value → Shared → Prop} {s : Shared}
theorem enumB {v : Value} {o : Obj} {HH : Heap → Prop} {Q : Value → Shared → Prop} (B : Begins v o HH) (h1 : HH s.heap)
    (h : ∀ h', IsEnum h' (s.heap.objs.size + 1) s.heap.objs.size 0 .none → h'.get? s.heap.objs.size = some o → h'.objs.size = s.heap.objs.size + 2 →
      (∀ b o, s.heap.get? b = some o → h'.get? b = some o) → Q (.ref (s.heap.objs.size + 1)) { s with heap := h' }) :
    wpAny (model prog w) A (call (.type "enumerate") [v]) Q E s := by
  refine callType_new F.called_enumerate (by decide) (F.typeCall_enumerate_1 _) (F.newCall_enumerate_1 _) (fun obj => F.args_object_init_2 obj _) F.entry_enumerate_new
    (meets_enumB B) ⟨h1, ?_⟩
  have hz : (s.heap.push o).objs.size = s.heap.objs.size + 1 := Heap.size_push ..
  show _ ∧ _
  rw [hz]
  have he : IsEnum ((s.heap.push o).push { cls := .type "enumerate", data := .fields #[.none, .bool false, .ref s.heap.objs.size, rawInt 0, .none, .none] }) (s.heap.objs.size + 1) s.heap.objs.size 0 .none := by
    have := Heap.get?_push_size (s.heap.push o) (o := { cls := .type "enumerate", data := .fields #[.none, .bool false, .ref s.heap.objs.size, rawInt 0, .none, .none] }) rfl
    rw [hz] at this; exact this
  exact ⟨⟨_, he, rfl⟩, h _ he (Heap.get?_push_of_some _ (Heap.get?_push_size _ B.free)) (by rw [Heap.size_push, hz]) fun b o x => Heap.get?_push_of_some _ (Heap.get?_push_of_some _ x)⟩
end
def ItEG (K : PySem.W.Frag) (S : Src) : It :=
  ⟨fun i H => ∃ (xs : List V) (x : V), S.items K H xs ∧ xs[i]? = some x,
    fun i H v H' => ∃ T x, v = .ref T ∧ H T = none ∧ H' = upd H T (.tup [.int (i : Nat), x]) ∧ (∀ xs, S.items K H xs → xs[i]? = some x),
    fun i H => ∃ xs : List V, S.items K H xs ∧ i = xs.length⟩
theorem Src.cellN {N : Nat} {S : Src} (h : S.below N) : N + 1 ∉ S.cell N ∧ N ∈ S.cell N := by
  cases S with
  | l a =>
    have h : (a : Nat) < N := h
    refine ⟨fun z => ?_, List.mem_cons_self⟩
    have z : N + 1 = N ∨ N + 1 = a := by simpa [Src.cell] using z
    rcases z with z | z
    · exact Nat.succ_ne_self N z
    · exact absurd h (by rw [← z]; exact Nat.not_lt.mpr (Nat.le_succ N))
  | t a =>
    have h : (a : Nat) < N := h
    refine ⟨fun z => ?_, List.mem_cons_self⟩
    have z : N + 1 = N ∨ N + 1 = a := by simpa [Src.cell] using z
    rcases z with z | z
    · exact Nat.succ_ne_self N z
    · exact absurd h (by rw [← z]; exact Nat.not_lt.mpr (Nat.le_succ N))
  | s x => exact ⟨fun z => absurd (show N + 1 = N by simpa [Src.cell] using z) (Nat.succ_ne_self N), List.mem_cons_self⟩
theorem turn_enumG {P : Program} {w : World} {K : PySem.W.Frag} {elts : List Expr} {kk : Nat} {tpos : Pos} {N : Nat} {S : Src} {t1 : Tok} (hb : S.below N) :
    Turn P w K (.Tuple elts kk tpos) (ItEG K S) [N + 1, N] (N + 1) (fun i h => (∃ old, IsEnum h (N + 1) N ((0 : Int) + (i : Int)) old) ∧ S.at_ t1 N i h) where
  mem := by simp
  obj := fun i h st c hc => by
    obtain ⟨⟨old, he⟩, s1⟩ := st
    have e' : c = N + 1 ∨ c = N := by simpa using hc
    rcases e' with q | q
    · rw [q]; exact ⟨_, he, fun v q => nomatch q⟩
    · rw [q]; exact Src.obj s1
  keep := fun i h h' st k => by
    obtain ⟨⟨old, he⟩, s1⟩ := st
    exact ⟨⟨old, k (N + 1) (by simp) _ he⟩, Src.keep s1 fun o q => k N (by simp) o q⟩
  item := by
    intro X hP hw hK hc i pins s σ H E I hf st hg
    subst hP hw hK
    obtain ⟨he, s1⟩ := st
    obtain ⟨xs, x, hqx, hx⟩ := hg
    have hh : X.A.in1.handled = none := I.ok.hd hc
    obtain ⟨P1, St1, D1, f1⟩ := Src.draws (tk := t1) (it := N) hh I hqx hb
    obtain ⟨n1, n2⟩ := Src.cellN hb
    have WK := WalksT.enumFrom 0 D1.draws (N + 1) (Nat.succ_ne_self N) n1 n2
    have li : i < xs.length := (List.getElem?_eq_some_iff.mp hx).1
    refine WK.item i s _ _ li ⟨he, f1 i s1⟩ fun T vals h' tk pv hT hTu mid kp => ⟨_, rfl, ?_⟩
    obtain ⟨tq, u1, p1, rfl⟩ := pv
    have ap := WK.apart i T h' mid
    refine WK.go elts kk tpos i T { s with heap := h', toks := tk } _ _ mid fun h'' st'' kp'' => ?_
    obtain ⟨x', hx', rx⟩ := D1.val i u1 p1
    rw [hx] at hx'; cases hx'
    obtain ⟨oT, eT, cT, nT, dT⟩ := hTu
    have hT2 : h''.get? T = some oT := kp'' T _ ap eT
    have e0 : (0 : Int) + (i : Int) = ((i : Nat) : Int) := Int.zero_add _
    have new : ObjOk X.prog X.w (upd H T (.tup [.int (i : Nat), x])) h'' T (.tup [.int (i : Nat), x]) :=
      ⟨by show 2 ≤ sizeLine; decide, [.int (i : Nat) tq, u1], .cons ⟨tq, rfl⟩ (.cons rx .nil), ⟨oT, hT2, cT, nT, by rw [e0] at dT; exact dT⟩⟩
    have I1 : Inv X pins σ (upd H T (.tup [.int (i : Nat), x])) { s with heap := h'', toks := tk } :=
      I.turnedNew (t' := tk) (ch := [N + 1, N]) (fun c o hb q => kp'' c o hb (kp c o hb q)) hf hT new
    refine ⟨.ref T, _, I1, rfl, ⟨T, x, rfl, I.hok.fresh hT, rfl, fun l hl => by rw [Src.inj I hl hqx]; exact hx⟩, ⟨st''.1, D1.back _ _ st''.2⟩, fun c hcm => ?_⟩
    have hlt : c < s.heap.objs.size := by
      have e' : c = N + 1 ∨ c = N := by simpa using hcm
      obtain ⟨old, he⟩ := he
      rcases e' with q | q
      · rw [q]; exact Heap.lt_size he
      · rw [q]; obtain ⟨_, e1, _⟩ := Src.obj s1; exact Heap.lt_size e1
    rw [upd_ne (Nat.ne_of_lt (Nat.lt_of_lt_of_le hlt hT))]
    exact (hf c hcm).1
  done := by
    intro X hP hw hK hc i pins s σ H E I hf st hg
    subst hP hw hK
    obtain ⟨he, s1⟩ := st
    obtain ⟨xs, hqx, hend⟩ := hg
    have hh : X.A.in1.handled = none := I.ok.hd hc
    obtain ⟨P1, St1, D1, f1⟩ := Src.draws (tk := t1) (it := N) hh I hqx hb
    obtain ⟨n1, n2⟩ := Src.cellN hb
    have WK := WalksT.enumFrom 0 D1.draws (N + 1) (Nat.succ_ne_self N) n1 n2
    subst hend
    exact WK.done s _ _ ⟨he, f1 _ s1⟩ fun h' tk kp => ⟨rfl, I.turnedL (t' := tk) (ch := [N + 1, N]) kp hf⟩
  self := fun A i s Q E st h => by
    obtain ⟨⟨old, he⟩, _⟩ := st
    exact wpAny_pyIter_enum he h
def iEnumG (K : PySem.W.Frag) (ta : TA) : TI := fun σ H R => ta σ H fun vs H1 => ∃ (S : Src) (xs : List V), vs = [S.v] ∧ S.items K H1 xs ∧ R (ItEG K S) H1
theorem pi_enumG {X : Cx} {e : Expr} {ta : TA} {p pos tpos : Pos} {elts : List Expr} {kk : Nat} (hg : Gl X "enumerate") (hm : X.mg "enumerate" = none) (ha : PA X [e] ta) (hs : starEach [e] X.env = [(false, eval e X.env)] := by rfl) :
    PI X (.Tuple elts kk tpos) (.Call (.Name "enumerate" p) [e] [] pos) (iEnumG X.K ta) := by
  refine ⟨fun pins s σ H R I h => ?_⟩
  refine Call_ (ld_blt I hg hm boot_enumerate (PyProof.Rows.callWith_type1 (thn (ha.run pos pins s σ H _ I h) fun us s1 ⟨vs, H1, I1, r1, q1⟩ => ?_) hs rfl))
  obtain ⟨S, xs, ex, hq, q⟩ := q1
  subst ex
  cases r1 with
  | cons r rr =>
    cases rr
    obtain ⟨o1, HH1, t1, B1, b1, l1, a1⟩ := Src.begin I1 hq r
    refine enumB B1 b1 fun h' he h1 hsz hk => wpAny_pyIter_enum he ?_
    have I2 : Inv X pins σ H1 { s1 with heap := h' } := I1.kept (t' := s1.toks) hk
    refine ⟨s1.heap.objs.size + 1, [s1.heap.objs.size + 1, s1.heap.objs.size], _, _, H1, rfl, I2, turn_enumG l1, ⟨⟨.none, he⟩, a1 _ _ h1⟩, fun b hb => ?_, q⟩
    have e' : b = s1.heap.objs.size + 1 ∨ b = s1.heap.objs.size := by simpa using hb
    have hle : s1.heap.objs.size ≤ b := by
      rcases e' with z | z
      · rw [z]; exact Nat.le_add_right _ _
      · rw [z]; exact Nat.le_refl _
    exact I1.fpOk hle (I1.hok.fresh hle)
def enumD (ds : List D) : List D := (List.range ds.length).zipWith (fun (i : Nat) d => D.tup [.int i, d]) ds
theorem enumD_get {ds : List D} {i : Nat} {d : D} (h : (enumD ds)[i]? = some d) : ∃ x, ds[i]? = some x ∧ d = .tup [.int i, x] := by
  unfold enumD at h
  rw [List.getElem?_zipWith] at h
  cases e : ds[i]? with
  | none => rw [e] at h; simp at h
  | some x =>
    have hi := (List.getElem?_eq_some_iff.mp e).1
    rw [e, List.getElem?_range hi] at h
    simp at h
    exact ⟨x, rfl, h.symm⟩
theorem items_enumG {K : PySem.W.Frag} {mg : Str → Option Value} {P : Hp} {S : Src} {ds : List D} {vs : List V} (h : ∀ H, Ex P H → S.items K H vs) (r : RepL K mg P ds vs) : ItemsOf K mg (ItEG K S) (enumD ds) P := by
  refine ⟨fun i d hi P1 H1 x1 x2 => ?_, fun P1 H1 x1 x2 => ⟨vs, h _ (x1.trans x2), by rw [← r.length]; simp [enumD]⟩⟩
  obtain ⟨x, f1, f2⟩ := enumD_get hi
  subst f2
  obtain ⟨v, g1, g2⟩ := r.get f1
  refine ⟨⟨vs, v, h _ (x1.trans x2), g1⟩, fun x H2 ⟨T, x', ex, hT, eH, y1⟩ => ?_⟩
  subst ex eH
  have q1 := y1 vs (h _ (x1.trans x2))
  rw [g1] at q1; cases q1
  have nP := fresh_back x2 hT
  exact ⟨_, Gr.add x2 hT, .tup upd_same (.cons (.int _) (.cons (g2.mono (x1.trans (Ex.new nP))) .nil))⟩
def dEnumG : List D → Option (List D)
  | [a] => match seqD a with
    | some ds => some (enumD ds)
    | none => none
  | _ => none
section
variable {X : Cx} {W : WX} {En : Ent} {a : Expr} {pos p : Pos} {g : Ga → R (List Res × Ga)}
theorem ei_enumG {elts : List Expr} {kk : Nat} {tpos : Pos} (hg : Gl X "enumerate") (hm : X.mg "enumerate" = none) (ha : EvA X W En [a] g) (hs : starEach [a] X.env = [(false, eval a X.env)] := by rfl) :
    EvI X W En (.Tuple elts kk tpos) (.Call (.Name "enumerate" p) [a] [] pos) (iArgs dEnumG g) := by
  obtain ⟨t, pa, h⟩ := ha
  refine ⟨_, pi_enumG hg hm pa hs, fun σ H P γ Rr S q => iargs_go h S q fun P2 H2 ds vs xs x r e k => ?_⟩
  unfold dEnumG at e
  split at e
  · rename_i d1
    cases r with
    | cons r0 r1 =>
      cases r1
      cases e1 : seqD d1 with
      | none => rw [e1] at e; cases e
      | some ds =>
        rw [e1] at e; cases e
        obtain ⟨S1, vs, z1, rl1, i1⟩ := src_of r0 e1
        exact ⟨S1, vs, by rw [z1], i1 _ x, k _ (items_enumG i1 rl1)⟩
  · cases e
end
end DL
end
section
set_option Elab.async false
set_option linter.all false
set_option maxRecDepth 100000
namespace DL
open PySem

/-! ### draws, a law's turns -/
abbrev Bg (a b c : Int) : Sl := .mu (.lst [.int a, .int b, .int c])
theorem at3 {x y z : D} : L2.atI [x, y, z] 0 = some x ∧ L2.atI [x, y, z] 1 = some y ∧ L2.atI [x, y, z] 2 = some z := ⟨rfl, rfl, rfl⟩
theorem ix3 : L2.ixN 3 0 = some 0 ∧ L2.ixN 3 1 = some 1 ∧ L2.ixN 3 2 = some 2 := ⟨rfl, rfl, rfl⟩
def PullOk (m : List Sl → R (D × List Sl)) : Prop := ∀ a b c t : Int, 0 < t → t < 1073741824 → ∃ r a' b' c', 0 ≤ r ∧ r < t ∧ m [Bg a b c, .pu (.int t)] = .ok (.int r, [Bg a' b' c', .pu (.int t)])
abbrev hChoose (mp : List Sl → R (D × List Sl)) : Ga → R (Fl × Ga) := sRet (eOp2 dIx (eVar 1) (eCallD 2 [0] mp (aCons (eVar 0) (aCons (eCall dLen (aCons (eVar 1) (aNil))) (aNil)))))
theorem atI_of {ds : List D} {r : Int} (r0 : 0 ≤ r) (r1 : r < ds.length) : L2.atI ds r = some (ds[r.toNat]'(by omega)) := by
  have hr : r.toNat < ds.length := by omega
  unfold L2.atI L2.ixN
  rw [if_pos r0, if_pos r1]
  simp [hr]
theorem choose_ok {mp mc : List Sl → R (D × List Sl)} (hp : PullOk mp) (hc : mc = mDef 2 0 (hChoose mp)) {a b c : Int} {ds : List D} (h0 : 0 < ds.length) (h1 : ds.length < 1073741824) : ∃ d a' b' c', d ∈ ds ∧ mc [Bg a b c, .pu (.lst ds)] = .ok (d, [Bg a' b' c', .pu (.lst ds)]) := by
  obtain ⟨r, a', b', c', r0, r1, e⟩ := hp a b c (ds.length : Int) (by omega) (by omega)
  have hr : r.toNat < ds.length := by omega
  have hat := atI_of (ds := ds) r0 r1
  refine ⟨ds[r.toNat], a', b', c', List.getElem_mem hr, ?_⟩
  subst hc
  unfold hChoose mDef
  simp [sRet, eOp2, eVar, eCallD, aCons, aNil, eCall, derefs, deref, dLen, ofO, bind, R.bind, argSl, muAt, cellPos, cellIx, e, backSl, dIx, hat, valOf]
theorem asg_choose {mp mc : List Sl → R (D × List Sl)} (hp : PullOk mp) (hc : mc = mDef 2 0 (hChoose mp)) {i : Nat} {items : Ga → R (Res × Ga)} {γ : Ga} {ds : List D} {a b c : Int} (h0 : γ[0]? = some (Bg a b c)) (hi : items γ = .ok (.val (.lst ds), γ)) (hl0 : 0 < ds.length) (hl : ds.length < 1073741824) :
    ∃ d a' b' c', d ∈ ds ∧ sAsg (eCallD 2 [0] mc (aCons (eVar 0) (aCons items aNil))) (bName i) γ = .ok (.next, (γ.set 0 (Bg a' b' c')).set i (.pu d)) := by
  obtain ⟨d, a', b', c', hd, e⟩ := choose_ok hp hc (a := a) (b := b) (c := c) hl0 hl
  refine ⟨d, a', b', c', hd, ?_⟩
  simp [sAsg, eCallD, aCons, eVar, h0, hi, aNil, argSl, muAt, cellPos, cellIx, e, backSl, valOf, ofO, bName, bind, R.bind]
theorem loop_cons {bd : D → Ga → Option Ga} {h : Ga → R (Fl × Ga)} {d : D} {ds : List D} {γ γ1 γ2 : Ga} (e1 : bd d γ = some γ1) (e2 : h γ1 = .ok (.next, γ2)) : loopF bd h (d :: ds) γ = loopF bd h ds γ2 := by
  conv => lhs; unfold loopF
  rw [e1]
  show (h γ1 >>= _) = _
  rw [e2]
  rfl
theorem sFor_of {fi : Ga → R (List D × Ga)} {bd : D → Ga → Option Ga} {h : Ga → R (Fl × Ga)} {ds : List D} {γ γ' : Ga} (e : fi γ = .ok (ds, γ')) : sFor fi bd h γ = loopF bd h ds γ' := by
  unfold sFor; rw [e]; rfl
theorem fCons_next {h1 : Ga → R (Fl × Ga)} {h2 : Ga → R (D × Ga)} {γ γ' : Ga} (e : h1 γ = .ok (.next, γ')) : fCons h1 h2 γ = h2 γ' := by
  unfold fCons; rw [e]; rfl
theorem atI_map {ns : List Int} {s : Nat} (h : s < ns.length) : L2.atI (ns.map D.int) (s : Int) = some (.int ns[s]) := by
  simp [L2.atI, L2.ixN, h]
theorem scr_at {ns : List Int} {s : Nat} (h : s < ns.length) : dIx (.scr (ns.map .int)) (.int s) = some (.int ns[s]) := by
  unfold dIx
  simp [L2.atI, L2.ixN, h]
def BagOk (m : List Sl → R (D × List Sl)) : Prop := ∀ (ns : List Int) (s : Nat), ∃ a b, m [.pu (.scr (ns.map .int)), .pu (.int s)] = .ok (.lst [.int a, .int b, .int 0], [.pu (.scr (ns.map .int)), .pu (.int s)])
theorem rng_eq (n : Nat) : rng 0 n = (List.range n).map fun s : Nat => D.int s := by
  unfold rng; simp
/-- how many turns -/
def turns (k n : Nat) : Nat := (if (if (n : Int) < (k : Int) then (n : Int) else (k : Int)) > 1 then (if (n : Int) < (k : Int) then (n : Int) else (k : Int)) else 1).toNat
abbrev iTurns (k : Nat) : Ga → R (List D × Ga) := iRange rangeD1 (aCons (eCall dMax (aCons (eC (.int 1)) (aCons (eCall dMin (aCons (eC (.int k)) (aCons (eCall dLen (aCons (eVar 0) (aNil))) (aNil)))) (aNil)))) (aNil))
theorem turns_ok (k : Nat) (hk : k < 1000) {ns : List Int} {γ : Ga} (h0 : γ[0]? = some (.pu (.scr (ns.map .int)))) : iTurns k γ = .ok ((List.range (turns k ns.length)).map fun s : Nat => D.int s, γ) := by
  obtain ⟨Y, hY⟩ : ∃ Y, Y = (if (if (ns.length : Int) < (k : Int) then (ns.length : Int) else (k : Int)) > 1 then (if (ns.length : Int) < (k : Int) then (ns.length : Int) else (k : Int)) else 1) := ⟨_, rfl⟩
  have h : okI Y = true := by
    rw [hY]
    unfold okI
    simp only [Bool.and_eq_true, decide_eq_true_eq]
    repeat' split
    all_goals omega
  have e : ∃ X, dMin [.int k, .int ns.length] = some (.int X) ∧ dMax [.int 1, .int X] = some (.int Y) := ⟨_, rfl, by rw [hY]; rfl⟩
  obtain ⟨X, e1, e2⟩ := e
  have ht : turns k ns.length = Y.toNat := by rw [hY]; rfl
  rw [ht]
  simp [iTurns, iRange, eCall, aCons, aNil, eVar, eC, h0, R.ok_bind, deref, derefs, ofO, dLen, e1, e2, rangeD1, h, rng_eq]
abbrev fBag (mb : List Sl → R (D × List Sl)) : Ga → R (D × Ga) := fCallD 2 mb (aCons (eVar 0) (aCons (eVar 1) (aNil)))
theorem bag_new {mb : List Sl → R (D × List Sl)} (hb : BagOk mb) {ns : List Int} {s : Nat} {γ : Ga} (h0 : γ[0]? = some (.pu (.scr (ns.map .int)))) (h1 : γ[1]? = some (.pu (.int s))) : ∃ a b, fBag mb γ = .ok (.lst [.int a, .int b, .int 0], γ) := by
  obtain ⟨a, b, e⟩ := hb ns s
  refine ⟨a, b, ?_⟩
  simp [fBag, fCallD, aCons, aNil, eVar, h0, h1, vals, e, R.ok_bind]
def RightOk (m : List Sl → R (D × List Sl)) : Prop := ∀ a b c : Int, ∃ a' b' c', m [Bg a b c] = .ok (.bl true, [Bg a' b' c'])
theorem right_call {m : List Sl → R (D × List Sl)} (hr : RightOk m) {i : Nat} {γ : Ga} {a b c : Int} (h : γ[i]? = some (Bg a b c)) : ∃ a' b' c', eCallD 1 [0] m (aCons (eVar i) (aNil)) γ = .ok (.val (.bl true), γ.set i (Bg a' b' c')) := by
  obtain ⟨a', b', c', e⟩ := hr a b c
  refine ⟨a', b', c', ?_⟩
  simp [eCallD, aCons, aNil, eVar, h, argSl, muAt, cellPos, cellIx, R.ok_bind, e, backSl]
/-- two turns at each spot -/
abbrev hTwo (mb mr : List Sl → R (D × List Sl)) : Ga → R (Fl × Ga) := sCons (sNew 2 (fBag mb))
  (sIf (tOr (tNot (toTr (eCallD 1 [0] mr (aCons (eVar 2) (aNil))))) (tNot (toTr (eCallD 1 [0] mr (aCons (eVar 2) (aNil)))))) (sRet (eC (.bl false))) (sNil))
theorem two_turn {mb mr : List Sl → R (D × List Sl)} (hb : BagOk mb) (hr : RightOk mr) {ns : List Int} {s : Nat} {v : Sl} : ∃ v', hTwo mb mr [.pu (.scr (ns.map .int)), .pu (.int s), v] = .ok (.next, [.pu (.scr (ns.map .int)), .pu (.int s), v']) := by
  obtain ⟨a, b, e⟩ := bag_new hb (ns := ns) (s := s) (γ := [.pu (.scr (ns.map .int)), .pu (.int s), v]) rfl rfl
  obtain ⟨a1, b1, c1, e1⟩ := right_call hr (i := 2) (γ := [.pu (.scr (ns.map .int)), .pu (.int s), Bg a b 0]) rfl
  obtain ⟨a2, b2, c2, e2⟩ := right_call hr (i := 2) (γ := [.pu (.scr (ns.map .int)), .pu (.int s), Bg a1 b1 c1]) rfl
  refine ⟨Bg a2 b2 c2, ?_⟩
  simp only [List.set] at e1 e2
  simp [hTwo, sCons, sNew, e, R.ok_bind, sIf, tOr, tNot, toTr, e1, e2, deref, ofO, dTru, sNil]
theorem two_loop {mb mr : List Sl → R (D × List Sl)} (hb : BagOk mb) (hr : RightOk mr) {ns : List Int} : ∀ (ss : List Nat) (u v : Sl), ∃ u' v', loopF (bName 1) (hTwo mb mr) (ss.map fun s : Nat => D.int s) [.pu (.scr (ns.map .int)), u, v] = .ok (.next, [.pu (.scr (ns.map .int)), u', v'])
  | [], u, v => ⟨u, v, rfl⟩
  | s :: ss, u, v => by
    obtain ⟨v1, e⟩ := two_turn hb hr (ns := ns) (s := s) (v := v)
    obtain ⟨u2, v2, e2⟩ := two_loop hb hr ss (.pu (.int s)) v1
    exact ⟨u2, v2, (loop_cons (γ1 := [.pu (.scr (ns.map .int)), .pu (.int s), v]) rfl e).trans e2⟩
/-- the whole law: the turns, then what is told at last; x: further names -/
theorem says_two {m mb mr : List Sl → R (D × List Sl)} {k : Nat} {fin : Ga → R (Fl × Ga)} (hk : k < 1000) (hm : m = mDef 1 2 (sCons (sFor (iTurns k) (bName 1) (hTwo mb mr)) fin)) (hb : BagOk mb) (hr : RightOk mr)
    (hf : ∀ ds u v, fin [.pu (.scr ds), u, v] = .ok (.ret (.bl true), [.pu (.scr ds), u, v])) : Says 63 m := by
  intro ns hn
  obtain ⟨u, v, e1⟩ := two_loop hb hr (ns := ns) (List.range (turns k ns.length)) .un .un
  refine ⟨[.pu (.scr (ns.map .int))], ?_⟩
  subst hm
  have e : (sCons (sFor (iTurns k) (bName 1) (hTwo mb mr)) fin) [.pu (.scr (ns.map .int)), .un, .un] = .ok (.ret (.bl true), [.pu (.scr (ns.map .int)), u, v]) := by
    rw [sCons_next ((sFor_of (turns_ok k hk (γ := [.pu (.scr (ns.map .int)), .un, .un]) rfl)).trans e1)]
    exact hf _ _ _
  unfold mDef
  show ((sCons (sFor (iTurns k) (bName 1) (hTwo mb mr)) fin) [.pu (.scr (ns.map .int)), .un, .un] >>= _) = _
  rw [e]
  rfl
end DL
end
section
set_option Elab.async false
set_option linter.all false
set_option maxRecDepth 100000
namespace DL
open PySem L2 Evl PySem.Spec PyProof.Rows LamX
open PySem.Builtin

/-! ### max(xs, default=c), max(d.values(), default=c): whole numbers -/
def maxDef (c : Int) : List Int → Int
  | [] => c
  | m :: ns => maxI m ns
theorem maxDef_at {c : Int} {ns : List Int} {m : Int} (h1 : m ∈ ns) (h2 : ∀ y ∈ ns, y ≤ m) : maxDef c ns = m := by
  cases ns with
  | nil => cases h1
  | cons x xs =>
    obtain ⟨g1, g2, g3⟩ := maxI_spec xs x
    exact (mem_one h1 h2 (y := maxI x xs) (by rcases g1 with g | g <;> simp [g]) (fun z hz => by
      rcases List.mem_cons.mp hz with rfl | hz
      · exact g2
      · exact g3 z hz)).symm
section
variable {prog : Program} {w : World} {A : Around} {E : Value → Shared → Prop} {s : Shared}
theorem call_max_intsD {x : Value} {c : Int} {tc : Tok} {ns : List Int} {Q : Value → Shared → Prop}
    (h : wpAny (model prog w) A.in1 (pyIter x) (fun it s₂ => ∃ I fp wr G P St, ∃ H : Heap, it = .ref I ∧ WalksS prog w A.in1 I fp wr G ns.length P St ∧ St 0 s₂ ∧ (∀ b ∈ fp, b < s₂.heap.objs.size) ∧
      (∀ b o, H.get? b = some o → b ∉ wr) ∧ (∀ b o, H.get? b = some o → s₂.heap.get? b = some o) ∧ (∀ i v, P i v → ∃ t, v = .int (ns.getD i 0) t) ∧
      ∀ t s', Moved wr G s₂ s' → Q (.int (maxDef c ns) t) s') E s) :
    wpAny (model prog w) A (call (.builtin "max") [x] [(Str.ofString "default", .int c tc)]) Q E s := by
  refine call_max_walkD (wpAny_mono h (fun it s₂ h₂ => ?_) fun _ _ e => e)
  obtain ⟨I, fp, wr, G, P, St, H, e1, W, hst, hfp, hw, hkeep, hval, q⟩ := h₂
  refine ⟨I, fp, wr, G, _, P, St, H, fun i j => decide (ns.getD i 0 > ns.getD j 0), e1, W, hst, hfp, hw, hkeep, fun e s' m => ?_, fun hn => ⟨fun i j vi vj s Q E _ hi hj hq => CmpOf.ints_gt (fun i => ns.getD i 0) hval i j vi vj s Q E hi hj hq, fun v s' hv m => ?_⟩⟩
  · have := q tc s' m
    rw [List.length_eq_zero_iff.mp e] at this
    exact this
  · obtain ⟨t, rfl⟩ := hval _ _ hv
    obtain ⟨b1, b2⟩ := argBest_gt (fun i => ns.getD i 0) (ns.length - 1)
    have hb : argBest (fun i j => decide (ns.getD i 0 > ns.getD j 0)) (ns.length - 1) < ns.length := by omega
    have e : maxDef c ns = ns.getD (argBest (fun i j => decide (ns.getD i 0 > ns.getD j 0)) (ns.length - 1)) 0 := maxDef_at (by
      rw [List.getD_eq_getElem?_getD, List.getElem?_eq_getElem hb]
      exact List.getElem_mem hb) fun y hy => by
        obtain ⟨i, hi, e⟩ := List.mem_iff_getElem.mp hy
        have e2 : ns.getD i 0 = y := by rw [List.getD_eq_getElem?_getD, List.getElem?_eq_getElem hi, ← e] <;> rfl
        rw [← e2]
        exact b2 i (by omega)
    rw [← e]
    exact q t s' m
end
section
variable {X : Cx} {W : WX} {En : Ent}
def rMaxLD (K : PySem.W.Frag) : List V → List V → Hp → VK → Prop := fun vs zs H Q => ∃ (a : Addr) (ns : List Int) (c : Int), vs = [V.ref a] ∧ zs = [.int c] ∧ SqL K H a (ns.map V.int) ∧ Q (.int (maxDef c ns)) H
theorem cr_maxLD (hc : X.calm = true) : CallRK X (.builtin "max") [Str.ofString "default"] (rMaxLD X.K) := by
  intro pins s σ H vs zs us ws Q I r rz h
  obtain ⟨a, ns, c, rfl, rfl, hs, q⟩ := h
  obtain rfl := Vals.ref1 r
  obtain ⟨w1, rfl, e1⟩ := vals1 rz
  obtain ⟨tc, rfl⟩ := e1
  obtain ⟨its, rv, hl, hz⟩ := I.list hs
  have hi := rv.ints
  have hlen : its.length = ns.length := by
    have := rv.length
    rw [List.length_map] at this
    exact this.symm
  refine call_max_intsD (ns := ns) (PySem.W.iter_listW (A := X.A.in1) (I.ok.hd hc) hl.isList fun s₂ e W st hfp hw hk => ?_)
  refine ⟨_, _, _, _, _, _, s.heap, rfl, (show its.toArray.size = ns.length by rw [List.size_toArray]; exact hlen) ▸ W, st, hfp, hw, hk, fun i v hv => ?_, fun t s' m => ?_⟩
  · have hv : its.toArray[i]? = some v := hv
    rw [List.getElem?_toArray] at hv
    exact IntsAre.int_at hi i v hv
  · obtain ⟨h', tk, rfl, hk'⟩ := PySem.W.moved_old e rfl m
    exact ⟨.int _, H, I.kept hk', ⟨_, rfl⟩, q⟩
/-- e.values(), a dict of the text -/
def tDVP (t : TE) : TE := fun σ H Q => t σ H fun x H1 => ∃ (a : Addr) (kvs : List (Key × V)), x = .ref a ∧ Rd H1 a (.dK kvs) ∧ ∀ p, H1 p = none → Q (.ref p) (upd H1 p (viewO "dict_values" p a))
theorem pe_dvp {e : Expr} {t : TE} {apos pos : Pos} (he : PE X e t) (hbase : attributeBase e "values" X.env (eval e X.env) = eval e X.env := by rfl) (hline : (apos.endLine == pos.line) = true := by rfl) :
    PE X (.Call (.Attribute e "values" apos) [] [] pos) (tDVP t) := by
  refine ⟨fun pins s σ H Q I h => ?_⟩
  refine wpAny_Call_method0_late hbase hline (thn (he.run pins s σ H _ I h) fun v s1 ⟨x, H1, I1, r1, a, kvs, ex, ha, q⟩ => ?_)
  subst ex
  obtain rfl : v = Value.ref a := r1
  obtain ⟨_, hsys, vs, rel, dof⟩ := dk_rd I1.hok ha
  obtain ⟨ep, dat⟩ := dof.dictAt
  have dat' := dat
  obtain ⟨ob, es, ho, ex, hdat, hko, hpr, hnd⟩ := dat'
  refine ⟨"dict", "dict.values", F.plainAttrs_dict, F.slot_dict_values, F.type_dict_values, ⟨ob, ho, ex.1⟩, fun b e => ?_, Calls.callWith_builtin rfl (PySem.evalArgs_none ?_)⟩
  · cases e
    exact ⟨ob, ho, ex.2.1⟩
  refine call_meetsIn F.slot_dict_values ⟨ob, ho, ex.1⟩ F.entry_dict_values (F.args_dict_values_1 _) (meets_dict_values (mixKind X.prog X.w) a hsys) ⟨⟨vs, dof⟩, ?_⟩
  exact ⟨.ref s1.heap.objs.size, _, I1.laid (t' := s1.toks) (fun b o q => Heap.get?_push_of_some _ q) (Nat.le_refl _) (viewO_ok (Heap.get?_push_size _ rfl)), rfl, q _ (I1.hok.fresh (Nat.le_refl _))⟩
def rMaxVD : List V → List V → Hp → VK → Prop := fun xs zs H Q => ∃ (p a : Addr) (kvs : List (Key × V)) (ns : List Int) (c : Int), xs = [.ref p] ∧ zs = [.int c] ∧ H p = some (viewO "dict_values" p a) ∧ Rd H a (.dK kvs) ∧ kvs.map (·.2) = ns.map V.int ∧ Q (.int (maxDef c ns)) H
theorem cr_maxVD (hc : X.calm = true) : CallRK X (.builtin "max") [Str.ofString "default"] rMaxVD := by
  intro pins s σ H vs zs us ws Q I r rz h
  obtain ⟨p, a, kvs, ns, c, rfl, rfl, hp, ha, hns, q⟩ := h
  obtain rfl := Vals.ref1 r
  obtain ⟨w1, rfl, e1⟩ := vals1 rz
  obtain ⟨tc, rfl⟩ := e1
  have hv : s.heap.get? p = some (DSub.viewOb "dict_values" a) := (show ObjOk X.prog X.w H s.heap p (viewO "dict_values" p a) from I.hok p _ hp).1
  obtain ⟨_, hsys, vs, rel, dof⟩ := dk_rd I.hok ha
  obtain ⟨ep, dat⟩ := dof.dictAt
  have dat' := dat
  obtain ⟨ob, es, ho, ex, hdat, hko, hpr, hnd⟩ := dat'
  have hlv : vs.length = ns.length := by
    have e1 := congrArg List.length hns
    rw [List.length_map, List.length_map] at e1
    rw [← e1]
    exact (KV.length rel).symm
  have hval : ∀ (i : Nat) (v : Value), (∃ k, vs[i]? = some (k, v)) → ∃ t, v = Value.int (ns.getD i 0) t := fun i v ⟨k, hk⟩ => by
    obtain ⟨x, h1, h2⟩ := KV.at' rel hk
    have e1 : (kvs.map (·.2))[i]? = some x := by rw [List.getElem?_map, h1] <;> rfl
    rw [hns, List.getElem?_map] at e1
    obtain ⟨j, hj, e2⟩ := Option.map_eq_some_iff.mp e1
    subst e2
    obtain ⟨t, e3⟩ := h2
    refine ⟨t, ?_⟩
    rw [e3, List.getD_eq_getElem?_getD, hj] <;> rfl
  have hlt : a < s.heap.objs.size := Heap.lt_size ho
  have WS := (Walks.dictValues (prog := X.prog) (w := X.w) (knd := mixKind X.prog X.w) (A := X.A.in1) (I.ok.hd hc) s.heap.objs.size a (Nat.ne_of_lt hlt) vs ep).toS
  rw [hlv] at WS
  refine call_max_intsD (ns := ns) (wpAny_pyIter_values (v := p) (d := a) (knd := mixKind X.prog X.w) ⟨_, hv, rfl, rfl⟩ dat ?_)
  refine ⟨_, _, _, _, _, _, s.heap, rfl, WS,
    ⟨⟨_, Heap.get?_push_size _ rfl, rfl, by rw [← hlv] <;> rfl⟩, dat.keep fun b u e => Heap.get?_push_of_some _ e⟩, fun b hb => ?_, fun b o e hb => ?_, fun b o e => Heap.get?_push_of_some _ e, hval, fun t s' m => ?_⟩
  · show b < (s.heap.push _).objs.size
    rw [Heap.size_push]
    rcases List.mem_cons.mp hb with e | hb
    · rw [e]; exact Nat.lt_succ_self _
    · rw [List.mem_singleton.mp hb]; exact Nat.lt_succ_of_lt hlt
  · have := Heap.lt_size e
    rw [List.mem_singleton.mp hb] at this
    exact absurd this (Nat.lt_irrefl _)
  · obtain ⟨h', tk, rfl, hk'⟩ := PySem.W.moved_old rfl rfl m
    exact ⟨.int _, H, I.kept hk', ⟨_, rfl⟩, q⟩

def dMaxL (c : Int) : D → Option D
  | .lst ds => match dInts ds with
    | some ns => some (.int (maxDef c ns))
    | _ => none
  | _ => none
def dMaxV (c : Int) : D → Option D
  | .dct false _ ds => match dInts ds with
    | some ns => some (.int (maxDef c ns))
    | _ => none
  | _ => none
theorem cs_maxL {c : Int} : CallS X (fun xs H Q => rMaxLD X.K xs [.int c] H Q) (fun ds => match ds with | [d] => dMaxL c d | _ => none) := fun P H xs as d Q e r hf q => by
  dsimp only at hf
  split at hf
  · rename_i d0
    obtain ⟨v, rfl, r1⟩ := r.one; clear r
    unfold dMaxL at hf
    split at hf
    · split at hf <;> cases hf
      rename_i ns hn
      cases r1 with
      | lst h r =>
        obtain ⟨e1, _⟩ := dInts_rep hn r
        subst e1
        exact ⟨_, ns, c, rfl, rfl, .of h, q _ _ _ (.refl e) (.int _)⟩
    · cases hf
  · cases hf
abbrev fMaxL (c : Int) : List D → Option D := fun ds => match ds with | [d] => dMaxL c d | _ => none
variable {e o : Expr} {es : List Expr} {pos p kp apos cpos q1 : Pos} {f : Ga → R (Res × Ga)} {g : Ga → R (List Res × Ga)} {c : Int} {k : Nat} {x : Str}
theorem ev_maxL (hc : X.calm = true) (hg : Gl X "max") (hm : X.mg "max" = none) (ha : EvA X W En (e :: es) g)
    (he : backTo pos (starEach (e :: es) X.env) = (false, eval e X.env) :: backTo pos (starEach es X.env) := by rfl) (hpl : (backTo pos (starEach (e :: es) X.env)).any (·.1) = false := by rfl)
    (hall : (backToKw pos (keywordEach [⟨some (Str.ofString "default"), .Constant (.int c) k q1, kp⟩] X.env)).all (·.1.isSome) = true := by rfl) (hnone : (backToKw pos (keywordEach [⟨some (Str.ofString "default"), .Constant (.int c) k q1, kp⟩] X.env)).any (·.1.isNone) = false := by rfl) (hks : (backToKw pos (keywordEach [⟨some (Str.ofString "default"), .Constant (.int c) k q1, kp⟩] X.env)).filterMap (·.1) = [Str.ofString "default"] := by rfl) : 
    Ev X W En (.Call (.Name "max" p) (e :: es) [⟨some (Str.ofString "default"), .Constant (.int c) k q1, kp⟩] pos) (eCall (fMaxL c) g) := by
  obtain ⟨t, pe, h⟩ := ha
  exact ⟨_, pe_callBK (cr_maxLD hc) hg hm (by first | rfl | decide +kernel) pe (pk_cons pe_int pk_nil) (he := he) (hpl := hpl) (hall := hall) (hnone := hnone) (hks := hks), fun σ H P γ Q S q => callS_go cs_maxL h S q⟩
theorem ev_maxV (hc : X.calm = true) (hg : Gl X "max") (hm : X.mg "max" = none) (ha : Ev X W En o f)
    (hs : starEach [.Call (.Attribute o "values" apos) [] [] cpos] X.env = (false, eval (.Call (.Attribute o "values" apos) [] [] cpos) X.env) :: starEach [] X.env := by rfl)
    (hbase : attributeBase o "values" X.env (eval o X.env) = eval o X.env := by rfl) (hline : (apos.endLine == cpos.line) = true := by rfl)
    (he : backTo pos (starEach [.Call (.Attribute o "values" apos) [] [] cpos] X.env) = (false, eval (.Call (.Attribute o "values" apos) [] [] cpos) X.env) :: backTo pos (starEach [] X.env) := by rfl) (hpl : (backTo pos (starEach [.Call (.Attribute o "values" apos) [] [] cpos] X.env)).any (·.1) = false := by rfl)
    (hall : (backToKw pos (keywordEach [⟨some (Str.ofString "default"), .Constant (.int c) k q1, kp⟩] X.env)).all (·.1.isSome) = true := by rfl) (hnone : (backToKw pos (keywordEach [⟨some (Str.ofString "default"), .Constant (.int c) k q1, kp⟩] X.env)).any (·.1.isNone) = false := by rfl) (hks : (backToKw pos (keywordEach [⟨some (Str.ofString "default"), .Constant (.int c) k q1, kp⟩] X.env)).filterMap (·.1) = [Str.ofString "default"] := by rfl) :
    Ev X W En (.Call (.Name "max" p) [.Call (.Attribute o "values" apos) [] [] cpos] [⟨some (Str.ofString "default"), .Constant (.int c) k q1, kp⟩] pos) (eOp1 (dMaxV c) f) := by
  obtain ⟨t, pe, h⟩ := ha
  refine ⟨_, pe_callBK (cr_maxVD hc) hg hm (by first | rfl | decide +kernel) (pa_cons (pe_dvp pe hbase hline) pa_nil hs) (pk_cons pe_int pk_nil) (he := he) (hpl := hpl) (hall := hall) (hnone := hnone) (hks := hks), fun σ H P γ Q S q => ?_⟩
  refine one_go (rep := repE X) (k := fun a γ2 => ofO (dMaxV c a) >>= fun d => .ok (.val d, γ2)) h hrepE S q fun P2 H2 γ2 a x S2 r1 q2 => ?_
  rcases ofO_cases (dMaxV c a) with ⟨d, e, e'⟩ | e
  · rw [e', R.ok_bind] at q2
    unfold dMaxV at e
    split at e
    · split at e <;> cases e
      rename_i ns hn
      cases r1 with
      | dctK h kk r =>
        obtain ⟨e1, _⟩ := dInts_rep hn r
        refine ⟨_, _, rfl, h, fun p n => ⟨p, _, _, ns, c, rfl, rfl, upd_same, ?_, e1, ?_⟩⟩
        · exact ex_rd (Ex.new n) h
        · exact q2.val S2 (.add S2.sub n) (.int _)
    · cases e
  · rw [e] at q2; exact q2.elim
end
end DL
end
section
set_option Elab.async false
set_option linter.all false
set_option maxRecDepth 100000
namespace DL
open PySem L2 Evl PySem.Spec PyProof.Rows LamX
/-- the law's own def, with lambdas -/
theorem fn_lawC {P : Program} {w : World} {K : PySem.W.Frag} {mg : Str → Option Value} {base : Heap} {x : Str} {st : Stmt} {c f : Addr} {oc : Value} {od : Option Addr} {kV doc pm : Value} {an : Option Addr} {ct : Value} {osl : Array (Option Value)} {N ps : List Str} {k : Nat} {T : List (Addr × Str)} {ms : List Nat} {h : Ga → R (Fl × Ga)}
    (lk : K.lookup f = some ⟨oc, od, .func (PySem.W.fnOf x x (defArgs st) (defBody st) (defScope st) .none kV doc pm an (.ref c) ct), osl⟩) (cd : PySem.W.codeIn K (.ref c) x = true) (S : FnScope N ps (defScope st))
    (hbody : ∀ (A : Around) (outer : List Env) (s : Shared) (H : Hp) (E : XK) (P0 : Hp) (σ0 : L2.St), Bo (cxOf (L2.CX P w) P w K mg base N x (defScope st) f (.ref c) A outer s H E) (fun cls d _ H' => E cls d H') k →
      PassesOwn (model P w) (A.deeper (envOfC x (defScope st) s.heap.objs.size f (.ref c))) (envOfC x (defScope st) s.heap.objs.size f (.ref c)) (cxOf (L2.CX P w) P w K mg base N x (defScope st) f (.ref c) A outer s H E).xe →
      EvSs (cxOf (L2.CX P w) P w K mg base N x (defScope st) f (.ref c) A outer s H E) (fun cls d _ H' => E cls d H') ⟨H, P0, σ0, ms, T⟩ (defBody st) h) :
    FnOk P w K mg base (L2.CX P w) (k + 1) f (PySem.W.fnOf x x (defArgs st) (defBody st) (defScope st) .none kV doc pm an (.ref c) ct) ps (spD K mg T ms ps.length (mDef ps.length (N.length - ps.length) h)) := by
  refine fn_of lk cd S (fun vs H Q E q => q.1) fun A outer s H vs Q E hr ⟨hl, P0, γ, S0, q⟩ => ?_
  obtain ⟨t, pt, ht⟩ := hbody A outer s H E P0 (vs.map some) ⟨rfl, S.nd, takes_of rfl rfl rfl rfl, hr⟩ (passes_of (X := cxOf (L2.CX P w) P w K mg base N x (defScope st) f (.ref c) A outer s H E) rfl)
  refine ⟨t, pt, ht _ H P0 (γ ++ List.replicate (N.length - ps.length) .un) _ (by
    have := S0.start (N.length - ps.length)
    unfold L2.start
    rw [hl]
    exact this) ?_⟩
  unfold mDef at q
  cases e : h (γ ++ List.replicate (N.length - ps.length) .un) with
  | no => rw [e] at q; exact q.elim
  | exc c => rw [e] at q; exact fun σ' H' cls kp tb m => q H' cls kp tb m
  | ok r =>
    obtain ⟨fl, γ'⟩ := r
    rw [e, R.ok_bind] at q
    cases fl with
    | next => exact fun σ' H' P' S' x => q .non σ' H' P' γ' S' x rfl .non
    | ret d => exact fun v σ' H' P' S' x r => q v σ' H' P' γ' S' x rfl r
    | brk => exact q.elim
    | cont => exact q.elim
/-- what the head finds of a law that makes lambdas -/
structure LwC (K : PySem.W.Frag) (mg : Str → Option Value) (x : Str) (st : Stmt) (c f : Addr) (fd : FuncData) : Prop where
  ex : ∃ (oc : Value) (od : Option Addr) (kV doc pm : Value) (an : Option Addr) (ct : Value) (osl : Array (Option Value)), mg x = some (.ref f) ∧ fd = PySem.W.fnOf x x (defArgs st) (defBody st) (defScope st) .none kV doc pm an (.ref c) ct ∧
    K.lookup f = some ⟨oc, od, .func (PySem.W.fnOf x x (defArgs st) (defBody st) (defScope st) .none kV doc pm an (.ref c) ct), osl⟩ ∧ PySem.W.codeIn K (.ref c) x = true
theorem LwC.of {K : PySem.W.Frag} {mg : Str → Option Value} {x : Str} {st : Stmt} {c : Addr} (D : DfC K mg x st c) : ∃ f fd, LwC K mg x st c f fd := by
  obtain ⟨f, oc, od, kV, doc, pm, an, ct, osl, hm, lk, cd, kp⟩ := D.ex
  exact ⟨f, _, ⟨oc, od, kV, doc, pm, an, ct, osl, hm, rfl, lk, cd⟩⟩
theorem LwC.mg {K : PySem.W.Frag} {mg : Str → Option Value} {x : Str} {st : Stmt} {c f : Addr} {fd : FuncData} (L : LwC K mg x st c f fd) : mg x = some (.ref f) := by
  obtain ⟨oc, od, kV, doc, pm, an, ct, osl, hm, _⟩ := L.ex
  exact hm
theorem LwC.binds {K : PySem.W.Frag} {mg : Str → Option Value} {x p : Str} {st : Stmt} {c f : Addr} {fd : FuncData} (L : LwC K mg x st c f fd)
    (h : ∀ (kV doc pm : Value) (an : Option Addr) (cdv ct u : Value), bindArgs (PySem.W.fnOf x x (defArgs st) (defBody st) (defScope st) .none kV doc pm an cdv ct) ⟨[u], []⟩ = pure [(p, u)]) (s : Shared) (u : Value) : BindsTo s fd ⟨[u], []⟩ [(p, u)] := by
  obtain ⟨oc, od, kV, doc, pm, an, ct, osl, hm, rfl, _⟩ := L.ex
  exact .of_eq (h kV doc pm an _ ct u)
theorem fn_lawL {P : Program} {w : World} {K : PySem.W.Frag} {mg : Str → Option Value} {base : Heap} {x : Str} {st : Stmt} {c f : Addr} {fd : FuncData} {N ps : List Str} {k : Nat} {T : List (Addr × Str)} {ms : List Nat} {h : Ga → R (Fl × Ga)}
    (L : LwC K mg x st c f fd) (S : FnScope N ps (defScope st))
    (hbody : ∀ (A : Around) (outer : List Env) (s : Shared) (H : Hp) (E : XK) (P0 : Hp) (σ0 : L2.St), Bo (cxOf (L2.CX P w) P w K mg base N x (defScope st) f (.ref c) A outer s H E) (fun cls d _ H' => E cls d H') k →
      PassesOwn (model P w) (A.deeper (envOfC x (defScope st) s.heap.objs.size f (.ref c))) (envOfC x (defScope st) s.heap.objs.size f (.ref c)) (cxOf (L2.CX P w) P w K mg base N x (defScope st) f (.ref c) A outer s H E).xe →
      EvSs (cxOf (L2.CX P w) P w K mg base N x (defScope st) f (.ref c) A outer s H E) (fun cls d _ H' => E cls d H') ⟨H, P0, σ0, ms, T⟩ (defBody st) h) :
    FnOk P w K mg base (L2.CX P w) (k + 1) f fd ps (spD K mg T ms ps.length (mDef ps.length (N.length - ps.length) h)) := by
  obtain ⟨oc, od, kV, doc, pm, an, ct, osl, hm, rfl, lk, cd⟩ := L.ex
  exact fn_lawC lk cd S hbody
end DL
end
section
set_option Elab.async false
set_option linter.all false
set_option maxRecDepth 100000
namespace DL
open PySem
/-! ### a law's turns, further names behind -/
theorem two_turnR {mb mr : List Sl → R (D × List Sl)} (hb : BagOk mb) (hr : RightOk mr) {ns : List Int} {s : Nat} {v : Sl} {rest : Ga} : ∃ v', hTwo mb mr (.pu (.scr (ns.map .int)) :: .pu (.int s) :: v :: rest) = .ok (.next, .pu (.scr (ns.map .int)) :: .pu (.int s) :: v' :: rest) := by
  obtain ⟨a, b, e⟩ := bag_new hb (ns := ns) (s := s) (γ := .pu (.scr (ns.map .int)) :: .pu (.int s) :: v :: rest) rfl rfl
  obtain ⟨a1, b1, c1, e1⟩ := right_call hr (i := 2) (γ := .pu (.scr (ns.map .int)) :: .pu (.int s) :: Bg a b 0 :: rest) rfl
  obtain ⟨a2, b2, c2, e2⟩ := right_call hr (i := 2) (γ := .pu (.scr (ns.map .int)) :: .pu (.int s) :: Bg a1 b1 c1 :: rest) rfl
  refine ⟨Bg a2 b2 c2, ?_⟩
  simp only [List.set] at e1 e2
  simp [hTwo, sCons, sNew, e, R.ok_bind, sIf, tOr, tNot, toTr, e1, e2, deref, ofO, dTru, sNil]
theorem two_loopR {mb mr : List Sl → R (D × List Sl)} (hb : BagOk mb) (hr : RightOk mr) {ns : List Int} {rest : Ga} : ∀ (ss : List Nat) (u v : Sl), ∃ u' v', loopF (bName 1) (hTwo mb mr) (ss.map fun s : Nat => D.int s) (.pu (.scr (ns.map .int)) :: u :: v :: rest) = .ok (.next, .pu (.scr (ns.map .int)) :: u' :: v' :: rest)
  | [], u, v => ⟨u, v, rfl⟩
  | s :: ss, u, v => by
    obtain ⟨v1, e⟩ := two_turnR hb hr (ns := ns) (s := s) (v := v) (rest := rest)
    obtain ⟨u2, v2, e2⟩ := two_loopR hb hr (rest := rest) ss (.pu (.int s)) v1
    exact ⟨u2, v2, (loop_cons (γ1 := .pu (.scr (ns.map .int)) :: .pu (.int s) :: v :: rest) rfl e).trans e2⟩
theorem says_twoR {m mb mr : List Sl → R (D × List Sl)} {k x : Nat} {fin : Ga → R (Fl × Ga)} (hk : k < 1000) (hm : m = mDef 1 (2 + x) (sCons (sFor (iTurns k) (bName 1) (hTwo mb mr)) fin)) (hb : BagOk mb) (hr : RightOk mr)
    (hf : ∀ ds u v, ∃ rest, fin (.pu (.scr ds) :: u :: v :: List.replicate x .un) = .ok (.ret (.bl true), .pu (.scr ds) :: rest)) : Says 63 m := by
  intro ns hn
  obtain ⟨u, v, e1⟩ := two_loopR hb hr (ns := ns) (rest := List.replicate x .un) (List.range (turns k ns.length)) .un .un
  obtain ⟨rest, e2⟩ := hf (ns.map .int) u v
  have e : (sCons (sFor (iTurns k) (bName 1) (hTwo mb mr)) fin) (.pu (.scr (ns.map .int)) :: .un :: .un :: List.replicate x .un) = .ok (.ret (.bl true), .pu (.scr (ns.map .int)) :: rest) := by
    rw [sCons_next ((sFor_of (turns_ok k hk (γ := .pu (.scr (ns.map .int)) :: .un :: .un :: List.replicate x .un) rfl)).trans e1)]
    exact e2
  refine ⟨[.pu (.scr (ns.map .int))], ?_⟩
  subst hm
  unfold mDef
  rw [show 2 + x = x + 1 + 1 by omega]
  show ((sCons (sFor (iTurns k) (bName 1) (hTwo mb mr)) fin) (.pu (.scr (ns.map .int)) :: .un :: .un :: List.replicate x .un) >>= _) = _
  rw [e]
  rfl
end DL
end
section
set_option Elab.async false
set_option linter.all false
set_option maxRecDepth 100000
namespace DL
open PySem L2 Evl PySem.Spec PyProof.Rows LamX
open PySem.Builtin PySem.SeqAt

/-! ### a dict and a text are not alike -/
theorem dict_eq_declines_str (l : Addr) (es : Array DictEntry) (n : Nat) (dd : Option Addr) (sl : Array (Option Value)) (b : Str) (u : Tok) :
    Meets (Builtin.«dict.__eq__» ⟨[.ref l, .str b u], []⟩) (fun _ R s => s.heap.get? l = some { cls := .type "dict", dict := dd, data := .dict es n, slots := sl } ∧ R (.ok (.ret .notImplemented)) s) :=
  .of_wp fun prog w A R s h => by
    obtain ⟨hl, h⟩ := h
    refine wpAny_bind ?_
    unfold Builtin.Dict.dictSlotArgs
    refine wpAny_bind (wpAny_notOrdered_dict ⟨_, hl, rfl⟩ ?_)
    have f1 := F.sub_str_dict
    wp_walk using wpAny_loadPart' hl
    exact ⟨_, rfl, h⟩
theorem str_eq_declines_dict (b : Str) (u : Tok) (l : Addr) (c : Value) (es : Array DictEntry) (n : Nat) (dd : Option Addr) (sl : Array (Option Value)) :
    Meets (Builtin.«str.__eq__» ⟨[.str b u, .ref l], []⟩) (fun _ R s => s.heap.get? l = some { cls := c, dict := dd, data := .dict es n, slots := sl } ∧ R (.ok (.ret .notImplemented)) s) :=
  .of_wp fun prog w A R s h => by obtain ⟨hp, g, d, tk, os⟩ := s; obtain ⟨hl, h⟩ := h; wp_walk using wpAny_loadPart' hl, wpAny_load hl; exact ⟨_, rfl, h⟩
section
variable {A : Around} {s : Shared}
theorem rc_dict_str {l : Addr} {es : Array DictEntry} {n : Nat} {dd : Option Addr} {sl : Array (Option Value)} (b : Str) (u : Tok) (ho : s.heap.get? l = some { cls := .type "dict", dict := dd, data := .dict es n, slots := sl }) (hu : A.units < cLine) : RcAt A s (.ref l) (.str b u) false := fun prog w E Q h => by
  exact rc_eq_decline_or (k := false) ⟨_, ho, rfl⟩ (typeIs_str s b u) (by decide) F.sub_str_dict F.slot_dict_eq F.slot_str_eq_refl
    (fun _ hq => call_meets F.slot_dict_eq ⟨_, ho, rfl⟩ F.entry_dict_eq (F.args_dict_eq_2 _ _) (dict_eq_declines_str l es n dd sl b u) ⟨ho, hq⟩)
    (fun _ hq => call_meets F.slot_str_eq_refl (typeIs_str s b u) F.entry_str_eq (F.args_str_eq_2 _ _) (str_eq_declines_dict b u l (.type "dict") es n dd sl) ⟨ho, hq⟩)
    (fun _ hq => wpAny_of_eq (rfl : isSame (.ref l) (.str b u) = pure false) hq) (.inr hu) h
theorem eq_dict_str {l : Addr} {es : Array DictEntry} {n : Nat} {dd : Option Addr} {sl : Array (Option Value)} (b : Str) (u : Tok) (ho : s.heap.get? l = some { cls := .type "dict", dict := dd, data := .dict es n, slots := sl }) (hu : A.units < cLine) : EqAt A s (.ref l) (.str b u) false := fun prog w E Q h => by
  unfold eqBool
  refine wpAny_holding ?_
  refine wpAny_ite_split (fun hab => absurd (eq_of_beq hab) nofun) (fun _ => ?_)
  exact wpAny_bind (rc_dict_str b u ho hu prog w E _ (wpAny_truthy_bool h))
end
section
variable {X : Cx}
/-- [a dict] != [a text] -/
def rNeDS (K : PySem.W.Frag) : R2 := fun x y H Q => ∃ (l1 l2 a : Addr) (kvs : List (Key × V)) (t : Str), x = .ref l1 ∧ y = .ref l2 ∧ SqL K H l1 [.ref a] ∧ SqL K H l2 [.str t] ∧ Rd H a (.dK kvs) ∧ Q (.bl true) H
theorem op_neX (hu : X.A.units + 64 < cLine) : OpR X (compareOp .NotEq) (fun x y H Q => rNeP X x y H Q ∨ rNeDS X.K x y H Q) := by
  intro pins s σ H x y v u Q I rx ry h
  rcases h with h | ⟨l1, l2, a, kvs, t, rfl, rfl, h1, h2, h3, q⟩
  · exact op_neP hu pins s σ H x y v u Q I rx ry h
  · cases rx; cases ry
    obtain ⟨i1, r1, k1, z1⟩ := I.list h1
    obtain ⟨i2, r2, k2, z2⟩ := I.list h2
    obtain ⟨v1, rfl, e1⟩ := vals1 r1
    obtain ⟨v2, rfl, e2⟩ := vals1 r2
    obtain rfl : v1 = Value.ref a := e1
    obtain ⟨u2, rfl⟩ := e2
    obtain ⟨_, hsys, vs, rel, dof⟩ := dk_rd I.hok h3
    obtain ⟨ep, dat⟩ := dof.dictAt
    obtain ⟨⟨cls, dd, data, sl⟩, es, ho, ex, hdat, hko, hpr, hnd⟩ := dat
    obtain ⟨c1, c2⟩ := ex
    simp only at c1 hdat
    subst c1 hdat
    have := RcNeAt.lists (A := X.A) (s := s) (e := fun _ => false) k1.isList k2.isList rfl (by omega) (fun j g1 g2 => by
      have : j = 0 := by simp at g1; exact g1
      subst this
      exact eq_dict_str t u2 ho (by show X.A.units + 1 < cLine; omega)) X.prog X.w X.xe
    exact this _ ⟨.bl true, H, I, rfl, q⟩
def dNeX (a b : D) : Option D := match a, b with
  | .lst [.dct false _ _], .lst [.str _] => some (.bl true)
  | _, _ => dNe a b
theorem os_neX : OpS X (fun x y H Q => rNeP X x y H Q ∨ rNeDS X.K x y H Q) dNeX := fun P H x y a b d Q e h1 h2 hf q => by
  unfold dNeX at hf
  split at hf
  · cases hf
    cases h1 with
    | lst g1 r1 =>
      cases h2 with
      | lst g2 r2 =>
        cases r1 with
        | cons r1 r1' =>
          cases r1'
          cases r2 with
          | cons r2 r2' =>
            cases r2'
            cases r1 with
            | dctK g3 k3 r3 =>
              cases r2 with
              | str s2 hs2 => exact .inr ⟨_, _, _, _, _, rfl, rfl, .of g1, .of g2, .inr ⟨_, e _ _ g3⟩, q _ _ _ (.here e) (.bl _)⟩
  · exact .inl (os_ne P H x y a b d Q e h1 h2 hf q)
end
end DL
end
section
set_option Elab.async false
set_option linter.all false
set_option maxRecDepth 100000
namespace DL
open PySem

/-! ### comprehensions, as plain Lean: filter, map, flatMap -/
section
variable {b b1 : D → Ga → Option Ga} {ft ft1 : Ga → R (Bool × Ga)} {fi fi1 : Ga → R (List D × Ga)} {fe fk : Ga → R (Res × Ga)} {vs vs1 : List Nat} {γ γw : Ga} {t : D → Bool} {f : D → D}
theorem loopC_pure : ∀ (ds : List D), (∀ d ∈ ds, ∃ g, b d γw = some g ∧ ft g = .ok (t d, g) ∧ (t d = true → fe g = .ok (.val (f d), g)) ∧ wipeG vs 0 g = γw) → loopC b ft fe vs ds γw = .ok ((ds.filter t).map f, γw)
  | [], _ => rfl
  | d :: ds, h => by
    obtain ⟨g, h1, h2, h3, h4⟩ := h d List.mem_cons_self
    have ih := loopC_pure ds fun x hx => h x (List.mem_cons_of_mem _ hx)
    unfold loopC
    rw [h1]
    simp only [ofO, R.ok_bind, h2, noX]
    by_cases c : t d = true
    · rw [if_pos c, h3 c]
      simp only [noX, R.ok_bind, valOf, h4, ih, List.filter_cons, if_pos c, List.map_cons]
    · rw [if_neg c, h4, ih, List.filter_cons, if_neg c]
theorem compL_pure {ds : List D} (t : D → Bool) (f : D → D) (hi : fi γ = .ok (ds, γ)) (hl : ds.length < sizeLine) (hu : unwipe γ vs 0 (wipeG vs 0 γ) = γ)
    (h : ∀ d ∈ ds, ∃ g, b d (wipeG vs 0 γ) = some g ∧ ft g = .ok (t d, g) ∧ (t d = true → fe g = .ok (.val (f d), g)) ∧ wipeG vs 0 g = wipeG vs 0 γ) : compL fi b ft fe vs γ = .ok (.lst ((ds.filter t).map f), γ) := by
  unfold compL
  rw [hi, R.ok_bind]
  simp only
  rw [if_pos hl, loopC_pure ds h, R.ok_bind]
  simp only [hu]
theorem loopC2_pure {t1 : D → D → Bool} {f2 : D → D → D} {l : D → List D} : ∀ (ds : List D) (n : Nat), n + (ds.map fun d => (l d).length).sum < sizeLine →
    (∀ d ∈ ds, ∃ g, b d γw = some g ∧ ft g = .ok (t d, g) ∧ wipeG vs 0 g = γw ∧ (t d = true → fi1 g = .ok (l d, g) ∧ wipeG vs 0 (wipeG vs1 0 g) = γw ∧
      ∀ y ∈ l d, ∃ g1, b1 y (wipeG vs1 0 g) = some g1 ∧ ft1 g1 = .ok (t1 d y, g1) ∧ (t1 d y = true → fe g1 = .ok (.val (f2 d y), g1)) ∧ wipeG vs1 0 g1 = wipeG vs1 0 g)) →
    loopC2 b ft fi1 b1 ft1 fe vs vs1 n ds γw = .ok (ds.flatMap fun d => if t d then ((l d).filter (t1 d)).map (f2 d) else [], γw)
  | [], _, _, _ => rfl
  | d :: ds, n, hn, h => by
    obtain ⟨g, h1, h2, h3, h4⟩ := h d List.mem_cons_self
    rw [List.map_cons, List.sum_cons] at hn
    unfold loopC2
    rw [h1]
    simp only [ofO, R.ok_bind, h2, noX]
    by_cases c : t d = true
    · obtain ⟨k1, k2, k3⟩ := h4 c
      rw [if_pos c, k1]
      simp only [noX, R.ok_bind]
      rw [if_pos (show n + (l d).length < sizeLine by omega), loopC_pure (l d) k3]
      simp only [noX, R.ok_bind, k2]
      have hl : (((l d).filter (t1 d)).map (f2 d)).length ≤ (l d).length := by rw [List.length_map]; exact List.length_filter_le _ _
      rw [loopC2_pure ds _ (by omega) fun x hx => h x (List.mem_cons_of_mem _ hx), R.ok_bind]
      simp only [List.flatMap_cons, c, if_true]
    · rw [if_neg c, h3, loopC2_pure ds n (by omega) fun x hx => h x (List.mem_cons_of_mem _ hx), List.flatMap_cons, if_neg c, List.nil_append]
theorem compL2_pure {ds : List D} (t : D → Bool) (l : D → List D) (t1 : D → D → Bool) (f2 : D → D → D) (hi : fi γ = .ok (ds, γ)) (hn : (ds.map fun d => (l d).length).sum < sizeLine) (hu : unwipe γ vs 0 (wipeG vs 0 γ) = γ)
    (h : ∀ d ∈ ds, ∃ g, b d (wipeG vs 0 γ) = some g ∧ ft g = .ok (t d, g) ∧ wipeG vs 0 g = wipeG vs 0 γ ∧ (t d = true → fi1 g = .ok (l d, g) ∧ wipeG vs 0 (wipeG vs1 0 g) = wipeG vs 0 γ ∧
      ∀ y ∈ l d, ∃ g1, b1 y (wipeG vs1 0 g) = some g1 ∧ ft1 g1 = .ok (t1 d y, g1) ∧ (t1 d y = true → fe g1 = .ok (.val (f2 d y), g1)) ∧ wipeG vs1 0 g1 = wipeG vs1 0 g)) :
    compL2 fi b ft fi1 b1 ft1 fe vs vs1 γ = .ok (.lst (ds.flatMap fun d => if t d then ((l d).filter (t1 d)).map (f2 d) else []), γ) := by
  unfold compL2
  rw [hi, R.ok_bind]
  simp only
  rw [loopC2_pure ds 0 (by omega) h]
  simp only [noX, R.ok_bind, hu]
theorem loopD_pure {k : D → DK} {kd : D → D} : ∀ (ds : List D) (ks : List DK) (us : List D), (∀ d ∈ ds, ∃ g, b d γw = some g ∧ ft g = .ok (t d, g) ∧ (t d = true → fk g = .ok (.val (kd d), g) ∧ (kd d).key = some (k d) ∧ (k d).isT = false ∧ fe g = .ok (.val (f d), g)) ∧ wipeG vs 0 g = γw) →
    loopD b ft fk fe vs ds γw ks us = .ok ((ds.filter t).foldl (fun z d => (dPutK z.1 (k d), dPutV z.1 z.2 (k d) (f d))) (ks, us), γw)
  | [], _, _, _ => rfl
  | d :: ds, ks, us, h => by
    obtain ⟨g, h1, h2, h3, h4⟩ := h d List.mem_cons_self
    unfold loopD
    rw [h1]
    simp only [ofO, R.ok_bind, h2, noX]
    by_cases c : t d = true
    · obtain ⟨k1, k2, k3, k4⟩ := h3 c
      rw [if_pos c, k1]
      simp only [noX, R.ok_bind, valOf, k2, k3, k4, ofO, h4, Bool.false_eq_true, if_false]
      rw [loopD_pure ds _ _ fun x hx => h x (List.mem_cons_of_mem _ hx), List.filter_cons, if_pos c, List.foldl_cons]
    · rw [if_neg c, h4, loopD_pure ds _ _ fun x hx => h x (List.mem_cons_of_mem _ hx), List.filter_cons, if_neg c]
theorem compD_pure {ds : List D} (t : D → Bool) (k : D → DK) (kd f : D → D) (hi : fi γ = .ok (ds, γ)) (hl : ds.length < sizeLine) (hu : unwipe γ vs 0 (wipeG vs 0 γ) = γ)
    (h : ∀ d ∈ ds, ∃ g, b d (wipeG vs 0 γ) = some g ∧ ft g = .ok (t d, g) ∧ (t d = true → fk g = .ok (.val (kd d), g) ∧ (kd d).key = some (k d) ∧ (k d).isT = false ∧ fe g = .ok (.val (f d), g)) ∧ wipeG vs 0 g = wipeG vs 0 γ) :
    compD fi b ft fk fe vs γ = .ok (let z := (ds.filter t).foldl (fun z d => (dPutK z.1 (k d), dPutV z.1 z.2 (k d) (f d))) ([], []); .dct false z.1 z.2, γ) := by
  unfold compD
  rw [hi, R.ok_bind]
  simp only
  rw [if_pos hl, loopD_pure ds [] [] h, R.ok_bind]
  simp only [hu]
end
end DL
end
section
set_option Elab.async false
set_option linter.all false
set_option maxRecDepth 100000
namespace DL
open PySem

/-! ### what a piece gives at a state, piece by piece -/
section
variable {γ γ1 γ2 : Ga} {f fa fb : Ga → R (Res × Ga)} {g : Ga → R (List Res × Ga)} {ft fs : Ga → R (Bool × Ga)} {a b d : D} {as : List D} {i : Nat} {k : Bool}
/-- the tree d, the state as it was -/
abbrev Pv (f : Ga → R (Res × Ga)) (γ : Ga) (d : D) : Prop := f γ = .ok (.val d, γ)
abbrev Pas (g : Ga → R (List Res × Ga)) (γ : Ga) (ds : List D) : Prop := g γ = .ok (ds.map .val, γ)
abbrev Pb (ft : Ga → R (Bool × Ga)) (γ : Ga) (b : Bool) : Prop := ft γ = .ok (b, γ)
abbrev Pi (fi : Ga → R (List D × Ga)) (γ : Ga) (ds : List D) : Prop := fi γ = .ok (ds, γ)
/-- on to the next statement -/
abbrev Nx (h : Ga → R (Fl × Ga)) (γ γ' : Ga) : Prop := h γ = .ok (.next, γ')
abbrev Rt (h : Ga → R (Fl × Ga)) (γ : Ga) (d : D) (γ' : Ga) : Prop := h γ = .ok (.ret d, γ')
theorem Pv.var (h : γ[i]? = some (.pu d)) : Pv (eVar i) γ d := by unfold Pv eVar; rw [h]
theorem Pv.fz (h : γ[i]? = some (.pu d)) : Pv (eFz i) γ d := by unfold Pv eFz; rw [h]
theorem Pv.c : Pv (eC d) γ d := rfl
/-- the object of a slot may be looked at, too -/
abbrev Pr (f : Ga → R (Res × Ga)) (γ : Ga) (d : D) : Prop := ∃ r, f γ = .ok (r, γ) ∧ deref γ r = .ok d
theorem Pv.r (h : Pv f γ d) : Pr f γ d := ⟨_, h, rfl⟩
theorem Pr.mu (h : γ[i]? = some (.mu d)) : Pr (eVar i) γ d := ⟨.cell i, by unfold eVar; rw [h], by show (match γ[i]? with | some (.mu d) => R.ok d | some (.pu d) => R.ok d | _ => R.no) = R.ok d; rw [h]⟩
theorem Pv.op1R {F : D → Option D} (h : Pr f γ a) (e : F a = some d) : Pv (eOp1 F f) γ d := by
  obtain ⟨r, h1, h2⟩ := h
  show (f γ >>= _) = _
  rw [h1]; show (deref γ r >>= _) = _
  rw [h2]; show (ofO (F a) >>= _) = _
  rw [e]; rfl
theorem Pv.op2R {F : D → D → Option D} (ha : Pr fa γ a) (hb : Pr fb γ b) (e : F a b = some d) : Pv (eOp2 F fa fb) γ d := by
  obtain ⟨r, h1, h2⟩ := ha
  obtain ⟨s, h3, h4⟩ := hb
  show (fa γ >>= _) = _
  rw [h1]; show (fb γ >>= _) = _
  rw [h3]; show (deref γ r >>= _) = _
  rw [h2]; show (deref γ s >>= _) = _
  rw [h4]; show (ofO (F a b) >>= _) = _
  rw [e]; rfl
theorem Pv.op1 {F : D → Option D} (h : Pv f γ a) (e : F a = some d) : Pv (eOp1 F f) γ d := .op1R h.r e
theorem Pv.op2 {F : D → D → Option D} (ha : Pv fa γ a) (hb : Pv fb γ b) (e : F a b = some d) : Pv (eOp2 F fa fb) γ d := .op2R ha.r hb.r e
abbrev Pars (g : Ga → R (List Res × Ga)) (γ : Ga) (ds : List D) : Prop := ∃ rs, g γ = .ok (rs, γ) ∧ derefs γ rs = .ok ds
theorem Pars.nil : Pars aNil γ [] := ⟨[], rfl, rfl⟩
theorem Pars.cons (h : Pr f γ d) (hr : Pars g γ as) : Pars (aCons f g) γ (d :: as) := by
  obtain ⟨r, h1, h2⟩ := h
  obtain ⟨rs, h3, h4⟩ := hr
  refine ⟨r :: rs, ?_, ?_⟩
  · show (f γ >>= _) = _
    rw [h1]; show (g γ >>= _) = _
    rw [h3]; rfl
  · unfold derefs; rw [h2, R.ok_bind, h4]; rfl
theorem Pas.nil : Pas aNil γ [] := rfl
theorem Pas.cons (h : Pv f γ d) (hr : Pas g γ as) : Pas (aCons f g) γ (d :: as) := by
  show (f γ >>= _) = _
  rw [h]; show (g γ >>= _) = _
  rw [hr]; rfl
theorem derefs_map : ∀ (ds : List D), derefs γ (ds.map Res.val) = .ok ds
  | [] => rfl
  | d :: ds => by
    have := derefs_map ds
    show derefs γ (.val d :: ds.map Res.val) = _
    unfold derefs; show (R.ok d >>= _) = _
    rw [R.ok_bind, this]; rfl
theorem Pv.callR {F : List D → Option D} (h : Pars g γ as) (e : F as = some d) : Pv (eCall F g) γ d := by
  obtain ⟨rs, h1, h2⟩ := h
  show (g γ >>= _) = _
  rw [h1]; show (derefs γ rs >>= _) = _
  rw [h2]; show (ofO (F as) >>= _) = _
  rw [e]; rfl
theorem Pas.r (h : Pas g γ as) : Pars g γ as := ⟨_, h, derefs_map as⟩
theorem Pv.call {F : List D → Option D} (h : Pas g γ as) (e : F as = some d) : Pv (eCall F g) γ d := .callR h.r e
theorem Pv.tup (h : Pas g γ as) (hl : as.length ≤ sizeLine) : Pv (eTup g) γ (.tup as) := by
  show (g γ >>= _) = _
  rw [h]; show (vals (as.map .val) >>= _) = _
  rw [vals_map, R.ok_bind, if_pos hl]
theorem Pv.toE {f : Ga → R (D × Ga)} (h : f γ = .ok (d, γ)) : Pv (DL.toE f) γ d := by unfold Pv DL.toE; rw [h]
theorem fr_lst (h : Pas g γ as) (hl : as.length ≤ sizeLine) : fLst g γ = .ok (.lst as, γ) := by
  show (g γ >>= _) = _
  rw [h]; show (vals (as.map .val) >>= _) = _
  rw [vals_map, R.ok_bind, if_pos hl]
theorem fr_call {F : List D → Option D} (h : Pars g γ as) (e : F as = some d) : fCall F g γ = .ok (d, γ) := by
  obtain ⟨rs, h1, h2⟩ := h
  show (g γ >>= _) = _
  rw [h1]; show (derefs γ rs >>= _) = _
  rw [h2]; show (ofO (F as) >>= _) = _
  rw [e]; rfl
theorem fr_callD {n : Nat} {m : List Sl → R (D × List Sl)} {outs : List Sl} (h : Pas g γ as) (hn : as.length = n) (e : m (as.map .pu) = .ok (d, outs)) : fCallD n m g γ = .ok (d, γ) := by
  show (g γ >>= _) = _
  rw [h]; show (vals (as.map .val) >>= _) = _
  rw [vals_map, R.ok_bind, if_pos hn, e]; rfl
theorem Pv.callD {n : Nat} {m : List Sl → R (D × List Sl)} {outs : List Sl} (h : Pas g γ as) (hn : as.length = n) (e : m (as.map .pu) = .ok (d, outs)) (ho : as.length ≤ outs.length) : Pv (eCallD n [] m g) γ d := eCallD_val as h hn e ho
theorem Pv.met {T : String} {F : D → List D → Option D} (ha : Pr fa γ a) (h : Pars g γ as) (ht : a.ty = T) (e : F a as = some d) : Pv (eMet T F fa g) γ d := by
  obtain ⟨r, h1, h2⟩ := ha
  obtain ⟨rs, h3, h4⟩ := h
  show (fa γ >>= _) = _
  rw [h1]; show (deref γ r >>= _) = _
  rw [h2, R.ok_bind, if_pos ht]; show (g γ >>= _) = _
  rw [h3]; show (deref γ r >>= _) = _
  rw [h2]; show (derefs γ rs >>= _) = _
  rw [h4]; show (ofO (F a as) >>= _) = _
  rw [e]; rfl
theorem Pb.t (h : Pv f γ (.bl k)) : Pb (toT f) γ k := by
  show (f γ >>= _) = _
  rw [h]; rfl
theorem Pb.tr (h : Pr f γ d) (e : dTru d = some k) : Pb (toTr f) γ k := by
  obtain ⟨r, h1, h2⟩ := h
  show (f γ >>= _) = _
  rw [h1]; show (deref γ r >>= _) = _
  rw [h2]; show (ofO (dTru d) >>= _) = _
  rw [e]; rfl
theorem Pb.not (h : Pb ft γ k) : Pb (tNot ft) γ (!k) := by
  show (ft γ >>= _) = _
  rw [h]; rfl
theorem Pb.and {k2 : Bool} (h : Pb ft γ k) (h2 : k = true → Pb fs γ k2) : Pb (tAnd ft fs) γ (k && k2) := by
  show (ft γ >>= _) = _
  rw [h]
  cases k with
  | true => exact h2 rfl
  | false => rfl
theorem Pb.or {k2 : Bool} (h : Pb ft γ k) (h2 : k = false → Pb fs γ k2) : Pb (tOr ft fs) γ (k || k2) := by
  show (ft γ >>= _) = _
  rw [h]
  cases k with
  | true => rfl
  | false => exact h2 rfl
theorem Pv.and {k2 : Bool} (h : Pv fa γ (.bl k)) (h2 : k = true → Pv fb γ (.bl k2)) : Pv (eAnd fa fb) γ (.bl (k && k2)) := by
  show (toT fa γ >>= _) = _
  rw [Pb.t h]
  cases k with
  | true => exact h2 rfl
  | false => rfl
theorem Pv.or {k2 : Bool} (h : Pv fa γ (.bl k)) (h2 : k = false → Pv fb γ (.bl k2)) : Pv (eOr fa fb) γ (.bl (k || k2)) := by
  show (toT fa γ >>= _) = _
  rw [Pb.t h]
  cases k with
  | true => rfl
  | false => exact h2 rfl
theorem Pv.not (h : Pv fa γ (.bl k)) : Pv (eNot fa) γ (.bl (!k)) := by
  show (toT fa γ >>= _) = _
  rw [Pb.t h]; rfl
theorem Pv.iff (h : Pb ft γ k) (h1 : k = true → Pv fa γ d) (h2 : k = false → Pv fb γ d) : Pv (eIf ft fa fb) γ d := by
  show (ft γ >>= _) = _
  rw [h]
  cases k with
  | true => exact h1 rfl
  | false => exact h2 rfl
theorem Pi.any {ds : List D} (h : Pv f γ d) (e : itemsA d = some ds) : Pi (iAnyV f) γ ds := by
  show (f γ >>= _) = _
  rw [h]; show (ofO (itemsA d) >>= _) = _
  rw [e]; rfl
theorem Pi.of {F : D → Option (List D)} {ds : List D} (h : Pv f γ d) (e : F d = some ds) : Pi (iOf F f) γ ds := by
  show (f γ >>= _) = _
  rw [h]; show (ofO (F d) >>= _) = _
  rw [e]; rfl
theorem Pi.args {F : List D → Option (List D)} {ds : List D} (h : Pas g γ as) (e : F as = some ds) : Pi (iArgs F g) γ ds := by
  show (g γ >>= _) = _
  rw [h]; show (vals (as.map .val) >>= _) = _
  rw [vals_map]; show (ofO (F as) >>= _) = _
  rw [e]; rfl
theorem Pi.range {F : List D → Option (List D)} {ds : List D} (h : Pars g γ as) (e : F as = some ds) : Pi (iRange F g) γ ds := by
  obtain ⟨rs, h1, h2⟩ := h
  show (g γ >>= _) = _
  rw [h1]; show (derefs γ rs >>= _) = _
  rw [h2]; show (ofO (F as) >>= _) = _
  rw [e]; rfl
theorem Nx.asg {b : D → Ga → Option Ga} (h : Pv f γ d) (e : b d γ = some γ1) : Nx (sAsg f b) γ γ1 := by
  show (f γ >>= _) = _
  rw [h]; show (ofO (b d γ) >>= _) = _
  rw [e]; rfl
theorem Nx.new {i : Nat} {f : Ga → R (D × Ga)} (h : f γ = .ok (d, γ)) : Nx (sNew i f) γ (γ.set i (.mu d)) := by
  show (f γ >>= _) = _
  rw [h]; rfl
theorem Rt.ret (h : Pv f γ d) : Rt (sRet f) γ d γ := by
  show (f γ >>= _) = _
  rw [h]; rfl
theorem sIf_at {h1 h2 : Ga → R (Fl × Ga)} (h : Pb ft γ k) : sIf ft h1 h2 γ = if k = true then h1 γ else h2 γ := by
  show (ft γ >>= _) = _
  rw [h]; rfl
theorem Nx.app {ts : List D} (hi : γ[i]? = some (.mu (.lst ts))) (hf : Pv f γ d) (hz : ts.length < sizeLine) : Nx (sExpr (eMutV "list" i mAppend (aCons f aNil))) γ (γ.set i (.mu (.lst (ts ++ [d])))) := append_val hi hf hz
theorem Nx.seq {h1 h2 : Ga → R (Fl × Ga)} (e1 : Nx h1 γ γ1) (e2 : Nx h2 γ1 γ2) : Nx (sCons h1 h2) γ γ2 := (sCons_next e1).trans e2
theorem Rt.seq {h1 h2 : Ga → R (Fl × Ga)} (e1 : Nx h1 γ γ1) (e2 : Rt h2 γ1 d γ2) : Rt (sCons h1 h2) γ d γ2 := (sCons_next e1).trans e2
/-- a def, by its body -/
theorem mDef_ret {n x : Nat} {h : Ga → R (Fl × Ga)} {ins : List Sl} (e : Rt h (ins ++ List.replicate x .un) d γ) : mDef n x h ins = .ok (d, γ.take n) := by
  unfold mDef
  rw [e]
  rfl
end
end DL
end
section
set_option Elab.async false
set_option linter.all false
set_option maxRecDepth 100000
namespace DL
open PySem L2 Evl PySem.Spec PyProof.Rows LamX

/-! ### a def of any number of arguments: def f( *xs ) -/
section
variable {P : Program} {w : World} {K : PySem.W.Frag} {mg : Str → Option Value} {base : Heap}
structure FnV (P : Program) (w : World) (K : PySem.W.Frag) (mg : Str → Option Value) (base : Heap) (k : Nat) (f : Addr) (sp : List V → Hp → VK → Prop) : Prop where
  run : ∀ (A : Around) (outer : List Env) (s : Shared) (H : Hp) (us : List Value) (vs : List V) (Q : VK) (E : XK), Room k A → Env0 P w K mg base A outer s H → Vals vs us → us ≠ [] → vs.length ≤ sizeLine →
    (∀ p, H p = none → sp [.ref p] (upd H p (.tup vs)) Q) → codeAny (model P w) A (.call (.ref f) ⟨us, []⟩) (CR (L2.CX P w) outer P w H s Q E) s
theorem env0_laid {A : Around} {outer : List Env} {s : Shared} {H : Hp} {vs : List V} {us : List Value} (e : Env0 P w K mg base A outer s H) (r : Vals vs us) (hl : vs.length ≤ sizeLine) :
    Env0 P w K mg base A outer { s with heap := s.heap.push { cls := .type "tuple", data := .seq us.toArray } } (upd H s.heap.objs.size (.tup vs)) := by
  have k : ∀ b o, s.heap.get? b = some o → (s.heap.push { cls := .type "tuple", data := .seq us.toArray }).get? b = some o := fun b o q => Heap.get?_push_of_some _ q
  refine ⟨e.frames, e.mod, fun b o q => ⟨k _ _ (e.bs b o q).1, ?_⟩, Nat.le_trans e.bsz ?_, e.funs.of_keeps fun b o ho _ => ⟨o, k _ _ ho, rfl⟩, fun b hb => ?_, e.hok.laid k (Nat.le_refl _) ?_, e.bare⟩
  · rw [upd_ne (Nat.ne_of_lt (Heap.lt_size (e.bs b o q).1))]
    exact (e.bs b o q).2
  · show s.heap.objs.size ≤ (s.heap.push _).objs.size
    rw [Heap.size_push]
    exact Nat.le_succ _
  · obtain ⟨_, o, ho, _⟩ := e.funs.mem hb
    rw [upd_ne (Nat.ne_of_lt (Heap.lt_size ho))]
    exact e.frf b hb
  · exact ⟨hl, us, r, ⟨_, Heap.get?_push_size _ rfl, rfl, _, rfl⟩⟩
theorem fn_ofV {k : Nat} {f : Addr} {name qual x : Str} {params : Arguments} {body : List Stmt} {scope : Scope} {dV kV doc pm cdv ct oc : Value} {an od : Option Addr}
    {osl : Array (Option Value)} {N : List Str} {sp : List V → Hp → VK → Prop} (lk : K.lookup f = some ⟨oc, od, .func (PySem.W.fnOf name qual params body scope dV kV doc pm an cdv ct), osl⟩) (hcd : PySem.W.codeIn K cdv qual = true) (S : FnScope N [x] scope)
    (hb : ∀ us : List Value, us ≠ [] → bindArgs (PySem.W.fnOf name qual params body scope dV kV doc pm an cdv ct) ⟨us, []⟩ = (newTuple us >>= fun t => pure [(x, t)]))
    (hbody : ∀ (A : Around) (outer : List Env) (s : Shared) (H : Hp) (vs : List V) (Q : VK), Room k (A.deeper (envOfC qual scope s.heap.objs.size f cdv)) → sp vs H Q → vs.length = 1 →
      ∃ t, PSs (cxOf (L2.CX P w) P w K mg base N qual scope f cdv A outer s H (fun _ _ _ => False)) body t ∧ t { nx := fun _ H' => Q .non H', rt := Q } (start N vs) H) :
    FnV P w K mg base (k + 1) f sp := by
  refine ⟨fun A outer s H us vs Q E hr e0 r hne hl hsp => ?_⟩
  have KX : K.In s.heap := e0.mod.kin.keeps fun b o e => (e0.bs b o e).1
  have hn : H s.heap.objs.size = none := e0.hok.fresh (Nat.le_refl _)
  have hsp := hsp _ hn
  have e1 := env0_laid e0 r hl
  have hz : sizeOk (.seq us.toArray) := by
    show us.toArray.size ≤ sizeLine
    rw [List.size_toArray, ← r.length]; exact hl
  refine codeAny_call_function hr.depth (KX _ _ lk) rfl S.co S.gen rfl (PySem.W.codeRec_of KX hcd) ?_
  rw [hb us hne]
  refine wpAny_bind (wpAny_newObj_type (wpAny_pure ?_) hz)
  obtain ⟨s1, es1⟩ : ∃ s1 : Shared, s1 = { s with heap := s.heap.push { cls := .type "tuple", data := .seq us.toArray } } := ⟨_, rfl⟩
  obtain ⟨H1, eH1⟩ : ∃ H1 : Hp, H1 = upd H s.heap.objs.size (.tup vs) := ⟨_, rfl⟩
  have un : Un (frs outer) [] H H1 s.heap s1.heap := by
    rw [es1, eH1]
    exact Un.laid (fun b u e => Heap.get?_push_of_some _ e) (Nat.le_refl _) hn
  rw [← es1, ← eH1] at e1
  rw [← eH1] at hsp
  show wpAny _ _ (newFunctionEnv _ _ _ _ _ _ _ _ _) _ _ { s with heap := s.heap.push { cls := .type "tuple", data := .seq us.toArray } }
  rw [← es1]
  have os1 : s1.os = s.os := by rw [es1]
  clear es1
  have lim : s1.heap.NoLimit := e1.mod.nolimit.keeps fun b o e => (e1.bs b o e).1
  have r1 : Vals [V.ref s.heap.objs.size] [Value.ref s.heap.objs.size] := .cons rfl .nil
  have hkind : ∀ y ∈ [x].zip [Value.ref s.heap.objs.size], scope.names.lookup y.1 = some .local ∨ (scope.names.lookup y.1 = some .cell ∧ ((cellsFrom (s1.heap.objs.size + 1) scope.names []).lookup y.1).isSome = true) := fun ⟨n, v⟩ hy => by
    rcases S.par n (List.of_mem_zip hy).1 with q | q
    · exact .inl q
    · exact .inr ⟨q, PySem.W.cellsFrom_some _ _ _ (.inl q)⟩
  refine wpAny_newFunctionEnv_cells S.kind hkind fun env he s2 x => ?_
  subst he
  refine ⟨lim.keeps x.toInCall.keep, codeAny_func ?_⟩
  obtain ⟨t, ht, hq⟩ := hbody A outer s1 H1 _ Q (hr.deeper _) hsp rfl
  have I : Inv (cxOf (L2.CX P w) P w K mg base N qual scope f cdv A outer s1 H1 (fun _ _ _ => False)) [] (start N [V.ref s.heap.objs.size]) H1 s2 := inv_start S hr.hd e1 rfl r1 x
  refine wpAny_mono (ht.run [] s2 (start N [V.ref s.heap.objs.size]) H1 _ I hq) (fun fl s' hs => ?_) fun e s' hs => wpAny_mono hs (fun _ _ h => (cx_no h).elim) (fun _ _ h => (cx_no h).elim)
  have fin : ∀ {σ' : L2.St} {H' : Hp} {v : V} {u : Value}, Inv (cxOf (L2.CX P w) P w K mg base N qual scope f cdv A outer s1 H1 (fun _ _ _ => False)) [] σ' H' s' → RelV v u → Q v H' → CE outer P w H s Q u s' :=
    fun {σ' H' v u} J rv q => ⟨v, H', J.os.trans os1, J.bare, un.trans J.base, J.hok, rv, q⟩
  cases fl with
  | ret u =>
    obtain ⟨v, σ', H', J, rv, q⟩ := hs
    exact fin J rv q
  | next =>
    obtain ⟨σ', H', J, q⟩ := hs
    exact fin (v := V.non) (u := Value.none) J rfl q
  | brk =>
    obtain ⟨_, _, _, q⟩ := hs
    exact False.elim q
  | cont =>
    obtain ⟨_, _, _, q⟩ := hs
    exact False.elim q
end

theorem vals_excV {c : Str} : ∀ {rs : List Res}, vals rs = .exc c → False
  | [], h => by cases h
  | .val d :: rs, h => by
    unfold vals at h
    cases e : vals rs with
    | ok a => rw [e] at h; cases h
    | exc c => exact vals_excV e
    | no => rw [e] at h; cases h
  | .cell i :: rs, h => by cases h
/-- f(e, ..), f a def of any number of arguments; it raises nothing -/
def tCallV (sp : List V → Hp → VK → Prop) (t : TA) : TE := fun σ H Q => t σ H fun vs H1 => vs.length ≤ sizeLine ∧ ∀ p, H1 p = none → sp [.ref p] (upd H1 p (.tup vs)) Q
section
variable {X : Cx} {W : WX} {En : Ent} {e : Expr} {es : List Expr} {p pos : Pos} {g : Ga → R (List Res × Ga)} {x : Str} {f : Addr} {k j : Nat} {sp : List V → Hp → VK → Prop} {t : TA} {m : List Sl → R (D × List Sl)}
theorem pe_callV (F : FnV X.prog X.w X.K X.mg X.base k f sp) (hr : Room k X.A) (hg : Gl X x) (hm : X.mg x = some (.ref f)) (hk : PySem.W.keepIn X.K (.ref f) = true) (ha : PA X (e :: es) t)
    (hdb : (x == ("__debug__" : Str)) = false := by decide) (he : starEach (e :: es) X.env = (false, eval e X.env) :: starEach es X.env := by rfl) (hpl : (backTo pos (starEach es X.env)).any (·.1) = false := by rfl) :
    PE X (.Call (.Name x p) (e :: es) [] pos) (tCallV sp (fun σ H Q => t σ H fun vs H1 => vs ≠ [] ∧ Q vs H1)) := by
  refine ⟨fun pins s σ H Q I h => ?_⟩
  refine wpAny_Call_Name_kw (ld_glob I hg hm ?_ hdb)
  refine PySem.W.callWith_K (h₀ := X.base) I.ok.mod.kin hk (thn (ha.run pos pins s σ H _ I h) fun us s1 ⟨vs, H1, I1, r, hn, hl, q⟩ => ⟨I1.kIn, ?_⟩) he hpl
  refine wpAny_call (codeAny_mono (F.run X.A X.stack s1 H1 us vs Q (fun _ _ _ => False) hr I1.env0 r (fun z => hn (by cases r with | nil => rfl | cons _ _ => cases z)) hl q) fun r s' hq => ?_)
  cases r with
  | error e => exact (cx_no hq).elim
  | ok fl =>
    cases fl with
    | ret u => exact I1.after hq
    | next => exact False.elim hq
    | brk => exact False.elim hq
    | cont => exact False.elim hq
def eCallV (m : List Sl → R (D × List Sl)) (g : Ga → R (List Res × Ga)) : Ga → R (Res × Ga) := fun γ => g γ >>= fun p => vals p.1 >>= fun ds => if ds ≠ [] ∧ ds.length ≤ sizeLine then (match m [.pu (.tup ds)] with
  | .ok (d, _) => .ok (.val d, p.2)
  | _ => .no) else .no
structure ClV (P : Program) (w : World) (K : PySem.W.Frag) (mg : Str → Option Value) (base : Heap) (T : List (Addr × Str)) (x : Str) (j : Nat) (m : List Sl → R (D × List Sl)) : Prop where
  ex : ∃ (f : Addr), FnV P w K mg base j f (fun vs H Q => spD K mg T [] 1 m vs H Q (fun _ _ _ => False)) ∧ mg x = some (.ref f) ∧ PySem.W.keepIn K (.ref f) = true
theorem ev_clV (c : ClV X.prog X.w X.K X.mg X.base En.T x j m) (hr : Room k X.A) (hj : j ≤ k) (hg : Gl X x) (ha : EvA X W En (e :: es) g)
    (hdb : (x == ("__debug__" : Str)) = false := by decide) (he : starEach (e :: es) X.env = (false, eval e X.env) :: starEach es X.env := by rfl) (hpl : (backTo pos (starEach es X.env)).any (·.1) = false := by rfl) :
    Ev X W En (.Call (.Name x p) (e :: es) [] pos) (eCallV m g) := by
  obtain ⟨f, F, hm, kp⟩ := c.ex
  obtain ⟨t, pa, ha⟩ := ha
  refine ⟨_, pe_callV F (hr.mono hj) hg hm kp pa hdb he hpl, fun σ H P γ Q S q => ha σ H P γ _ S ?_⟩
  unfold eCallV at q
  cases ea : g γ with
  | no => rw [ea] at q; exact q
  | exc c => rw [ea] at q; exact q
  | ok r0 =>
    obtain ⟨rs, γ1⟩ := r0
    rw [ea, R.ok_bind] at q
    intro vs H1 P1 S1 T1 r
    have q1 := PostG.later T1 (fun P' H' σ a b => hrepE _ _ P' H' σ a b T1.dom) q
    simp only at q1
    cases e1 : vals rs with
    | no => rw [e1] at q1; exact q1.elim
    | exc c => exact (vals_excV e1).elim
    | ok ds =>
      rw [e1, R.ok_bind] at q1
      have rl := vals_rep r e1
      split at q1
      rotate_left
      · exact q1.elim
      rename_i hc
      refine ⟨fun z => hc.1 (List.eq_nil_of_length_eq_zero (by rw [rl.length, z]; rfl)), by rw [← rl.length]; exact hc.2, fun pp n => ?_⟩
      have g1 : Gr P1 H1 (upd P1 pp (.tup vs)) (upd H1 pp (.tup vs)) := .add S1.sub n
      have S2 := S1.gr g1
      have rt : Rep X.K X.mg (upd P1 pp (.tup vs)) (.tup ds) (.ref pp) := .tup upd_same (rl.mono g1.p)
      have rr : ResReps X.K X.mg (upd P1 pp (.tup vs)) σ [.val (.tup ds)] [.ref pp] := .cons rt .nil
      have ea2 : argSl γ1 [.val (.tup ds)] = .ok [.pu (.tup ds)] := rfl
      refine ⟨rfl, _, [.pu (.tup ds)], S2.entry ea2 rr List.nodup_nil, ?_⟩
      cases e2 : m [.pu (.tup ds)] with
      | no => rw [e2] at q1; exact q1.elim
      | exc c => rw [e2] at q1; exact q1.elim
      | ok r2 =>
        obtain ⟨d, outs⟩ := r2
        rw [e2] at q1
        intro v σ' H' P' γ' S' x ho rv
        have e3 : backSl [.val (.tup ds)] [.pu (.tup ds)] γ1 = .ok γ1 := rfl
        obtain ⟨S3, T3⟩ := S2.back (outs := [.pu (.tup ds)]) ea2 rr List.nodup_nil S' (fun j d h => by cases j <;> simp at h) e3
        have T2 : Stp En.T σ γ1 P1 H1 γ1 _ _ := g1.stp
        exact (PostG.later T2 (fun P' H' σ a b => hrepE _ _ P' H' σ a b T2.dom) q1) v H' P' S3 T3 rv
end
end DL
end
section
set_option Elab.async false
set_option linter.all false
set_option maxRecDepth 100000
namespace DL
open PySem L2 Evl PySem.Spec PyProof.Rows LamX

/-! ### {k: v for a in b for c in d}: a dict by two clauses, no tests -/
abbrev dc2E (kx vx ta ia tb ib : Expr) (sco : Scope) (po : Pos) : Expr := .DictComp kx vx [⟨ta, ia, [], 0⟩, ⟨tb, ib, [], 0⟩] sco po
section
variable {prog : Program} {w : World} {A : Around} {R : Result → Shared → Prop} {s : Shared} {kx vx ta ia tb ib : Expr} {sco : Scope} {po : Pos} {it : Value} {D : Addr} {env : Env}
theorem dc2_turnA : compTurn (dc2E kx vx ta ia tb ib sco po) 0 it (.ref D) env = (do
      standAt ia.pos
      match ← pyNext it with
      | none => pure (.done .next)
      | some u =>
        letOwnedTupleGo ta it u
        assign ta env u
        let y ← eval ib env
        standAt ib.pos
        let y ← foldedSetIterable ib env y
        let _ ← runOwn (.compStart (dc2E kx vx ta ia tb ib sco po) 1 (← holding [y] (pyIter y)) (.ref D) env) env
        again (.compLoop (dc2E kx vx ta ia tb ib sco po) 0 it (.ref D) env)) := by rfl
theorem dc2_turnB : compTurn (dc2E kx vx ta ia tb ib sco po) 1 it (.ref D) env = (do
      standAt ib.pos
      match ← pyNext it with
      | none => pure (.done .next)
      | some u =>
        letOwnedTupleGo tb it u
        assign tb env u
        (do
          let k ← eval kx env
          let z ← holding [k] (eval vx env)
          standAt { kx.pos with endLine := vx.pos.endLine, endCol := vx.pos.endCol }
          holding [k, z] (dictSet D k z))
        again (.compLoop (dc2E kx vx ta ia tb ib sco po) 1 it (.ref D) env)) := by rfl
abbrev Er (prog : Program) (w : World) (A : Around) (env : Env) (R : Result → Shared → Prop) : Value → Shared → Prop := notedBy (model prog w) A env fun x t => R (.error x) t
/-- the first clause's loop -/
theorem dc2_loopA (hf : ∀ y, foldedSetIterable ib env y = pure y) (J : Nat → Shared → Prop)
    (step : ∀ n s, J n s → wpAny (model prog w) A (pyNext it) (fun o s1 => match o with
      | none => R (.ok .next) s1
      | some u => wpAny (model prog w) A (letOwnedTupleGo ta it u) (fun _ s2 => wpAny (model prog w) A (assign ta env u) (fun _ s3 =>
          wpAny (model prog w) A (eval ib env) (fun y s4 => wpAny (model prog w) A (pyIter y) (fun jt s5 =>
            codeAny (model prog w) A (.compStart (dc2E kx vx ta ia tb ib sco po) 1 jt (.ref D) env) (fun r t => (∃ f, r = .ok f) ∧ ∃ m, m < n ∧ J m t) s5) (Er prog w A env R) s4) (Er prog w A env R) s3) (Er prog w A env R) s2) (Er prog w A env R) s1) (Er prog w A env R) s)
    (n : Nat) (h : J n s) : codeAny (model prog w) A (.compLoop (dc2E kx vx ta ia tb ib sco po) 0 it (.ref D) env) R s := by
  refine codeAny_loop rfl J (fun n s hJ => ?_) n h
  show wpAny _ A ((compTurn (dc2E kx vx ta ia tb ib sco po) 0 it (.ref D) env).onRaise (fun x => do noteFrame x env; theTreesLotGoes x)) _ _ s
  refine wpAny_noted ?_
  rw [dc2_turnA]
  refine wpAny_bind (wpAny_standAt (wpAny_bind (wpAny_mono (step n s hJ) (fun o s1 q1 => ?_) fun _ _ z => z)))
  cases o with
  | none => exact wpAny_pure q1
  | some u =>
    refine wpAny_bind (wpAny_mono q1 (fun _ s2 q2 => wpAny_bind (wpAny_mono q2 (fun _ s3 q3 => ?_) fun _ _ z => z)) fun _ _ z => z)
    refine wpAny_bind (wpAny_mono q3 (fun y s4 q4 => ?_) fun _ _ z => z)
    refine wpAny_bind (wpAny_standAt (wpAny_bind (wpAny_of_eq (hf y) (wpAny_bind (wpAny_holding (wpAny_mono q4 (fun jt s5 q5 => ?_) fun _ _ z => z))))))
    refine wpAny_bind (wpAny_runOwn ?_)
    rw [Around.mark_none]
    refine codeAny_mono q5 fun r t ⟨⟨f, e⟩, q⟩ => ?_
    subst e
    first
      | exact wpAny_pure ⟨rfl, q⟩
      | exact wpAny_bind (wpAny_pure (wpAny_pure ⟨rfl, q⟩))
/-- the second clause's loop -/
theorem dc2_loopB (J : Nat → Shared → Prop)
    (step : ∀ n s, J n s → wpAny (model prog w) A (pyNext it) (fun o s1 => match o with
      | none => R (.ok .next) s1
      | some u => wpAny (model prog w) A (letOwnedTupleGo tb it u) (fun _ s2 => wpAny (model prog w) A (assign tb env u) (fun _ s3 =>
          wpAny (model prog w) A (eval kx env) (fun k s4 => wpAny (model prog w) A (eval vx env) (fun z s5 =>
            wpAny (model prog w) A (dictSet D k z) (fun _ s6 => ∃ m, m < n ∧ J m s6) (Er prog w A env R) s5) (Er prog w A env R) s4) (Er prog w A env R) s3) (Er prog w A env R) s2) (Er prog w A env R) s1) (Er prog w A env R) s)
    (n : Nat) (h : J n s) : codeAny (model prog w) A (.compLoop (dc2E kx vx ta ia tb ib sco po) 1 it (.ref D) env) R s := by
  refine codeAny_loop rfl J (fun n s hJ => ?_) n h
  show wpAny _ A ((compTurn (dc2E kx vx ta ia tb ib sco po) 1 it (.ref D) env).onRaise (fun x => do noteFrame x env; theTreesLotGoes x)) _ _ s
  refine wpAny_noted ?_
  rw [dc2_turnB]
  refine wpAny_bind (wpAny_standAt (wpAny_bind (wpAny_mono (step n s hJ) (fun o s1 q1 => ?_) fun _ _ z => z)))
  cases o with
  | none => exact wpAny_pure q1
  | some u =>
    refine wpAny_bind (wpAny_mono q1 (fun _ s2 q2 => wpAny_bind (wpAny_mono q2 (fun _ s3 q3 => ?_) fun _ _ z => z)) fun _ _ z => z)
    refine wpAny_bind (wpAny_bind (wpAny_mono q3 (fun k s4 q4 => ?_) fun _ _ z => z))
    refine wpAny_bind (wpAny_holding (wpAny_mono q4 (fun z s5 q5 => ?_) fun _ _ z => z))
    exact wpAny_bind (wpAny_standAt (wpAny_holding (wpAny_mono q5 (fun _ s6 q6 => wpAny_pure ⟨rfl, q6⟩) fun _ _ z => z)))
theorem dc2_start {n : Nat} (hn : n = 0 ∨ n = 1) (a : codeAny (model prog w) A (.compLoop (dc2E kx vx ta ia tb ib sco po) n it (.ref D) env) R s)
    (b : wpAny (model prog w) A (pyIter it) (fun jt t => codeAny (model prog w) A (.compLoop (dc2E kx vx ta ia tb ib sco po) n jt (.ref D) env) R t) (Er prog w A env R) s) :
    codeAny (model prog w) A (.compStart (dc2E kx vx ta ia tb ib sco po) n it (.ref D) env) R s := by
  refine codeAny_of_tree ?_
  show wpAny _ _ ((compStart (dc2E kx vx ta ia tb ib sco po) n it (.ref D) env).onRaise (fun x => do noteFrame x env; standAt theWindowsPlace)) _ _ s
  refine wpAny_notedAt ?_
  unfold compStart
  rcases hn with rfl | rfl
  all_goals
    show wpAny _ _ (ask >>= _) _ _ s
    refine wpAny_bind (wpAny_askSetting (wpAny_ite ?_))
    split
    · first
        | exact wpAny_bind (wpAny_pure (wpAny_pure (And.intro rfl a)))
        | exact wpAny_pure (And.intro rfl a)
    · refine wpAny_bind (wpAny_rule ?_)
      show wpAny _ _ (standAt _ >>= _) _ _ s
      exact wpAny_bind (wpAny_standAt (wpAny_bind (wpAny_mono b (fun jt t q => wpAny_pure (And.intro rfl q)) fun _ _ z => z)))
end
end DL
end
section
set_option Elab.async false
set_option linter.all false
set_option maxRecDepth 100000
namespace DL
open PySem L2 Evl PySem.Spec PyProof.Rows LamX

abbrev PGb (X : Cx) (sco : Scope) (tg : Expr) (g : TG) : Prop := ∀ (s : Shared) (H : Hp) (C : Addr) (cl : List (Str × Addr)) (fp : List Addr), PG (X.blk s H sco (compEnvC sco cl C X.env) fp) tg g
abbrev PEb (X : Cx) (sco : Scope) (e : Expr) (t : TE) : Prop := ∀ (s : Shared) (H : Hp) (C : Addr) (cl : List (Str × Addr)) (fp : List Addr), PE (X.blk s H sco (compEnvC sco cl C X.env) fp) e t
abbrev PIb (X : Cx) (sco : Scope) (tg e : Expr) (t : TI) : Prop := ∀ (s : Shared) (H : Hp) (C : Addr) (cl : List (Str × Addr)) (fp : List Addr), PI (X.blk s H sco (compEnvC sco cl C X.env) fp) tg e t
def tDc2 (wa : TI) (ga : TG) (wb : TI) (gb : TG) (tk tv : TE) (vs us : List Nat) : TE := fun σ H Q => wa σ H fun J H1 => ∀ D, H1 D = none → ∃ W : Nat → Nat → Hp → Prop, (∃ m, W 0 m (upd H1 D (.dK []))) ∧ ∀ i m H, W i m H →
  (J.stop i H ∧ Q (.ref D) H) ∨ (J.go i H ∧ ∃ Nx : Hp → Prop, (∀ H', Nx H' → ∃ m', m' < m ∧ W (i + 1) m' H') ∧ ∀ x H', J.yld i H x H' → ga x (wipe σ vs) H' fun σ2 H2 => wipe σ2 vs = wipe σ vs ∧
    wb σ2 H2 fun J1 H4 => ∃ W1 : Nat → Nat → Hp → Prop, (∃ m, W1 0 m H4) ∧ ∀ j k H, W1 j k H →
      (J1.stop j H ∧ Nx H) ∨ (J1.go j H ∧ ∃ Nx1 : Hp → Prop, (∀ H', Nx1 H' → ∃ k', k' < k ∧ W1 (j + 1) k' H') ∧ ∀ x H', J1.yld j H x H' → gb x (wipe σ2 us) H' fun σ3 H5 => wipe σ3 us = wipe σ2 us ∧
        tk σ3 H5 fun y H6 => tv σ3 H6 fun z H7 => ∃ kvs k, y = kV k ∧ H7 D = some (.dK kvs) ∧ kvs.length < sizeLine ∧ Nx1 (upd H7 D (.dK (putK kvs k z)))))
section
variable {X : Cx} {kx vx ta ia tb ib : Expr} {sco : Scope} {own : List (Str × Nat)} {us : List Nat} {po : Pos} {wa wb : TI} {ga gb : TG} {tk tv : TE}
theorem pe_dc2 (hc : X.calm = true) (hN : X.N.Nodup) (hi : PI X ta ia wa) (ok : BlkOk X.N X.env.scope sco own) (hv : ∀ i ∈ us, i ∈ own.map (·.2)) (hg : PGb X sco ta ga) (hi1 : PIb X sco tb ib wb) (hg1 : PGb X sco tb gb) (hk : PEb X sco kx tk) (he : PEb X sco vx tv)
    (hs : ∀ x, foldedSetIterable ia X.env x = pure x := by intro _; rfl) (hs1 : ∀ env x, foldedSetIterable ib env x = pure x := by intro _ _; rfl) :
    PE X (dc2E kx vx ta ia tb ib sco po) (tDc2 wa ga wb gb tk tv (own.map (·.2)) us) := by
  refine ⟨fun pins s σ H Q I h => ?_⟩
  rw [arm_eval_DictComp]
  generalize hvs : own.map (·.2) = vs at h hv
  have hfree : ∀ y ∈ sco.names, y.2 = .free → ∃ c, X.env.cells.lookup y.1 = some c := fun y hy e => by
    rcases ok.free y hy e with k | k
    · exact I.ok.has _ (.inl k)
    · exact I.ok.has _ (.inr k)
  refine wpAny_comprehension_free rfl hs (closure_ok hfree) ok.kind (fun y hy e => by rw [ok.uniq y hy, e]) (thn (hi.run pins s σ H _ I h) fun xv sa hx => thn hx fun itv sb hb => ?_)
  obtain ⟨it, fp, tn, J, Hb, e, Ib, T, stb, fb, q⟩ := hb
  subst e
  refine wpAny_newObj_type (newEnv_comp ?_)
  generalize hD : sb.heap.objs.size = D
  have hDn : Hb D = none := Ib.hok.fresh (Nat.le_of_eq hD)
  obtain ⟨W, ⟨m0, w0⟩, turn⟩ := q D hDn
  generalize hsc : ({ sb with heap := sb.heap.push { cls := .type "dict", data := .dict #[] } } : Shared) = sc
  have hh : sc.heap = sb.heap.push { cls := .type "dict", data := .dict #[] } := by rw [← hsc]
  have Ic : Inv X pins σ (upd Hb D (.dK [])) sc := by
    rw [← hsc]
    refine Ib.laid (t' := sb.toks) (fun b o e => Heap.get?_push_of_some _ e) (Nat.le_of_eq hD) ?_
    rw [← hD]
    exact dk_empty sb.heap Ib.big
  have lt : ∀ b ∈ fp, b < sb.heap.objs.size := fun b hb => by
    obtain ⟨o, e, _⟩ := T.obj _ _ stb b hb
    exact Heap.lt_size e
  have fc : ∀ b ∈ fp, FpOk X pins (upd Hb D (.dK [])) b ∧ b < sc.heap.objs.size := fun b hb => by
    refine ⟨⟨?_, (fb b hb).2⟩, by rw [hh, Heap.size_push]; exact Nat.lt_succ_of_lt (lt b hb)⟩
    rw [upd_ne (by rw [← hD]; exact Nat.ne_of_lt (lt b hb))]
    exact (fb b hb).1
  have stc : tn 0 sc.heap := T.keep _ _ _ stb fun b _ o e => by rw [hh]; exact Heap.get?_push_of_some _ e
  have Id := block_start Ic ok hN fc
  let cl := cellsFrom (sc.heap.objs.size + 1) sco.names (cloFrom X.env.cells sco.names [])
  have pga := hg sc (upd Hb D (.dK [])) sc.heap.objs.size cl fp
  have pib := hi1 sc (upd Hb D (.dK [])) sc.heap.objs.size cl fp
  have pgb := hg1 sc (upd Hb D (.dK [])) sc.heap.objs.size cl fp
  have pk := hk sc (upd Hb D (.dK [])) sc.heap.objs.size cl fp
  have pv := he sc (upd Hb D (.dK [])) sc.heap.objs.size cl fp
  show codeAny _ _ (.compStart (dc2E kx vx ta ia tb ib sco po) 0 (.ref it) (.ref D) (compEnvC sco cl sc.heap.objs.size X.env)) (compPost (model X.prog X.w) X.A X.xe _ _ (.ref D) sc.heap.objs.size) { sc with heap := pushCells (sc.heap.push { cls := .type "dict", data := .dict #[] }) sco.names }
  have nfp : ∀ b ∈ fp, (upd Hb D (.dK [])) b = none := fun b hb => (fc b hb).1.1
  have hcL : (compEnvC sco cl sc.heap.objs.size X.env).locals = sc.heap.objs.size := rfl
  generalize hce : compEnvC sco cl sc.heap.objs.size X.env = ce at Id pga pib pgb pk pv hcL ⊢
  generalize hHc : upd Hb D (.dK []) = Hc at Ic Id pga pib pgb pk pv w0 nfp fc
  generalize hsd : ({ sc with heap := pushCells (sc.heap.push { cls := .type "dict", data := .dict #[] }) sco.names } : Shared) = sd at Id ⊢
  have std : tn 0 sd.heap := T.keep _ _ _ stc fun b _ o e => by rw [← hsd]; exact pushCells_keeps _ _ _ _ (Heap.get?_push_of_some _ e)
  let B := X.blk sc Hc sco ce fp
  have stat : ∀ {σ' : L2.St} {H' : Hp} {s' : Shared}, Inv B [] σ' H' s' → (∀ b ∈ fp, H' b = none) → ∀ b ∈ fp, FpOk B [] H' b := fun {σ' H' s'} I' hn b hb =>
    ⟨hn b hb, (I'.ok.exf b hb).1, I'.ok.exfs b hb, .inl hb, fun x c e => (I'.ok.exf b hb).2 x c e, fun p hp => absurd (show p ∈ ([] : List (Addr × Obj)) ++ [] from hp) (by simp)⟩
  let Lp : Nat → Shared → Prop := fun n t => ∃ i H', Inv B [] (wipe σ vs) H' t ∧ tn i t.heap ∧ (∀ b ∈ fp, H' b = none) ∧ W i n H'
  have loop : codeAny (model X.prog X.w) X.A (.compLoop (dc2E kx vx ta ia tb ib sco po) 0 (.ref it) (.ref D) ce) (compPost (model X.prog X.w) X.A X.xe none (EP X pins σ Q) (.ref D) sc.heap.objs.size) sd := by
    refine dc2_loopA (hs1 ce) Lp ?_ m0 ⟨0, Hc, by rw [hvs] at Id; exact Id, std, nfp, w0⟩
    rintro n se ⟨i, He, Ie, ste, ne, we⟩
    rcases turn i n He we with ⟨stop, qq⟩ | ⟨go, Nx, hNx, step⟩
    · refine thnF (T.done B rfl rfl rfl hc i [] se _ He (fun _ _ => False) Ie (stat Ie ne) ste stop) fun r sf ⟨hr, If⟩ => ?_
      subst hr
      have Ig : Inv X pins σ He sf := Ic.call' (ch := fp) If.os If.base If.hok If.bare fun b hb => ⟨(fc b hb).1.2.2.2.1, (fc b hb).1.2.1, (fc b hb).1.2.2.2.2.1, (fc b hb).1.2.2.2.2.2⟩
      have nC : He sc.heap.objs.size = none := by
        have z : He ce.locals = none := If.free
        rwa [hcL] at z
      obtain ⟨m, hn, _⟩ := If.loc
      have hn : sf.heap.Ns ce.locals m := hn
      rw [hcL] at hn
      refine ⟨m, hn, fun h'' sbt => ?_⟩
      obtain ⟨f0, f1, f2, f3, f4, f5⟩ := Ic.fpOk (Nat.le_refl _) nC
      exact ⟨.ref D, He, Ig.turned (t' := sf.toks) (fun b o hb e => (sbt.2 b hb).trans e) f0 f1 f3 f4 f5, rfl, qq⟩
    · refine thnF (T.item B rfl rfl rfl hc i [] se _ He (fun _ _ => False) Ie (stat Ie ne) ste go) fun r sf ⟨u, hr, hf⟩ => ?_
      subst hr
      refine thnF hf fun _ sg ⟨x, Hg, Ig, rg, yg, stg, ng⟩ => ?_
      refine thnF (pga.run _ sg _ Hg x u _ (Ig.pinned (stat Ig ng) (T.obj _ _ stg)) rg (step x Hg yg)) fun _ sh ⟨σh, Hh, Ih, hwh, qh⟩ => ?_
      have len_h : (wipe σ vs).length = σh.length := by rw [← hwh, wipe_length]
      have know : ∀ (j : Nat) v, (wipe σ vs)[j]? = some (some v) → (wipe σh us)[j]? = some (some v) := fun j v e => by
        rw [← hwh] at e
        obtain ⟨e1, e2⟩ := wipe_some e
        rw [wipe_out fun z => e2 (hv j z)]
        exact e1
      -- the end of a turn of the first clause
      have fin : ∀ {σz : L2.St} {t : Shared} {H' : Hp}, Inv B ([] ++ pinsAt fp sg.heap) σz H' t → (wipe σ vs).length = σz.length → (∀ (j : Nat) v, (wipe σ vs)[j]? = some (some v) → σz[j]? = some (some v)) → Nx H' → ∃ m, m < n ∧ Lp m t := fun {σz t H'} I' hl hk nx => by
        obtain ⟨m', hm, w'⟩ := hNx H' nx
        have pin' : ∀ b ∈ fp, ∀ o, sg.heap.get? b = some o → t.heap.get? b = some o ∧ H' b = none := fun b hb o e =>
          let z := I'.pin (b, o) (List.mem_append_right _ (List.mem_append_right _ (mem_pinsAt hb e)))
          ⟨z.1, z.2.1⟩
        refine ⟨m', hm, i + 1, H', (I'.unpinned (pins := [])).weak hl hk, T.keep _ _ _ stg fun b hb o e => (pin' b hb o e).1, fun b hb => ?_, w'⟩
        obtain ⟨o, e, _⟩ := T.obj _ _ stg b hb
        exact (pin' b hb o e).2
      refine thnF (pib.run _ sh σh Hh _ Ih qh) fun xv si hx => thnF hx fun itv sj hj => ?_
      obtain ⟨jt, fq, tm, J1, Hj, e1, Ij, T1, stj, fj, W1, ⟨m1, w1⟩, turn1⟩ := hj
      subst e1
      have stat1 : ∀ {H' : Hp}, (∀ b ∈ fq, H' b = none) → ∀ b ∈ fq, FpOk B ([] ++ pinsAt fp sg.heap) H' b := fun hn b hb => ⟨hn b hb, (fj b hb).2⟩
      let Lq : Nat → Shared → Prop := fun k t => ∃ j H', Inv B ([] ++ pinsAt fp sg.heap) (wipe σh us) H' t ∧ tm j t.heap ∧ (∀ b ∈ fq, H' b = none) ∧ W1 j k H'
      have inner : codeAny (model X.prog X.w) X.A (.compLoop (dc2E kx vx ta ia tb ib sco po) 1 (.ref jt) (.ref D) ce) (fun r t => (∃ f, r = .ok f) ∧ ∃ m, m < n ∧ Lp m t) sj := by
        refine dc2_loopB Lq ?_ m1 ⟨0, Hj, Ij.weak (wipe_length _ _) (fun j v e => (wipe_some e).1), stj, fun b hb => (fj b hb).1, w1⟩
        rintro k sk ⟨j, Hk, Ik, stk, nk, wk⟩
        rcases turn1 j k Hk wk with ⟨stop1, nx1⟩ | ⟨go1, Nx1, hNx1, step1⟩
        · refine thnF (T1.done B rfl rfl rfl hc j _ sk (wipe σh us) Hk (fun _ _ => False) Ik (stat1 nk) stk stop1) fun r sl ⟨hr, Il⟩ => ?_
          subst hr
          exact ⟨⟨_, rfl⟩, fin Il (len_h.trans (wipe_length σh us).symm) know nx1⟩
        · refine thnF (T1.item B rfl rfl rfl hc j _ sk (wipe σh us) Hk (fun _ _ => False) Ik (stat1 nk) stk go1) fun r sl ⟨u1, hr, hl⟩ => ?_
          subst hr
          refine thnF hl fun _ sm ⟨x1, Hm, Im, rm, ym, stm, nm⟩ => ?_
          refine thnF (pgb.run _ sm (wipe σh us) Hm x1 u1 _ (Im.pinned (stat1 nm) (T1.obj _ _ stm)) rm (step1 x1 Hm ym)) fun _ sn ⟨σn, Hn, In, hwn, qn⟩ => ?_
          have fin1 : ∀ {t : Shared} {H' : Hp}, Inv B (([] ++ pinsAt fp sg.heap) ++ pinsAt fq sm.heap) σn H' t → Nx1 H' → ∃ m, m < k ∧ Lq m t := fun {t H'} I' nx => by
            obtain ⟨m', hm, w'⟩ := hNx1 H' nx
            have pin' : ∀ b ∈ fq, ∀ o, sm.heap.get? b = some o → t.heap.get? b = some o ∧ H' b = none := fun b hb o e =>
              let z := I'.pin (b, o) (List.mem_append_right _ (List.mem_append_right _ (mem_pinsAt hb e)))
              ⟨z.1, z.2.1⟩
            refine ⟨m', hm, j + 1, H', I'.unpinned.weak (by rw [← hwn, wipe_length]) (fun j v e => by rw [← hwn] at e; exact (wipe_some e).1), T1.keep _ _ _ stm fun b hb o e => (pin' b hb o e).1, fun b hb => ?_, w'⟩
            obtain ⟨o, e, _⟩ := T1.obj _ _ stm b hb
            exact (pin' b hb o e).2
          refine thnF (pk.run _ sn σn Hn _ In qn) fun z so ⟨yk, Ho, Io, ro, qo⟩ => ?_
          refine thnF (pv.run _ so σn Ho _ Io qo) fun z2 sp ⟨yv, Hp', Ip, rp, kvs, kk, ek, hDp, hzp, nx⟩ => ?_
          subst ek
          exact d_dictSet (X := B) Ip hDp hzp ro rp fun sq Iq => fin1 Iq nx
      exact dc2_start (.inr rfl) inner (T1.self X.A 0 _ _ _ stj inner)
  exact dc2_start (.inl rfl) loop (T.self X.A 0 _ _ _ std loop)
end
end DL
end
section
set_option Elab.async false
set_option linter.all false
set_option maxRecDepth 100000
set_option maxHeartbeats 1000000
namespace DL
open PySem L2 Evl PySem.Spec PyProof.Rows LamX

/-! ### the same, on trees -/
theorem ksk_len : ∀ {ks : List DK} {us : List Key}, KsK ks us → ks.length = us.length
  | _, _, .nil => rfl
  | _, _, .i h => congrArg (· + 1) (ksk_len h)
  | _, _, .s h => congrArg (· + 1) (ksk_len h)
def loopD2 (bd : D → Ga → Option Ga) (it1 : Ga → R (List D × Ga)) (bd1 : D → Ga → Option Ga) (fk fe : Ga → R (Res × Ga)) (vs vs1 : List Nat) : List D → Ga → List DK → List D → R ((List DK × List D) × Ga)
  | [], γ, ks, us => .ok ((ks, us), γ)
  | d :: ds, γ, ks, us => ofO (bd d γ) >>= fun γ1 => noX (it1 γ1) >>= fun q => if ks.length + q.1.length < sizeLine then
      noX (loopD bd1 tYesG fk fe vs1 q.1 (wipeG vs1 0 q.2) ks us) >>= fun r => loopD2 bd it1 bd1 fk fe vs vs1 ds (wipeG vs 0 r.2) r.1.1 r.1.2 else .no
def compD2 (it : Ga → R (List D × Ga)) (bd : D → Ga → Option Ga) (it1 : Ga → R (List D × Ga)) (bd1 : D → Ga → Option Ga) (fk fe : Ga → R (Res × Ga)) (vs vs1 : List Nat) : Ga → R (D × Ga) := fun γ =>
  it γ >>= fun p => noX (loopD2 bd it1 bd1 fk fe vs vs1 p.1 (wipeG vs 0 p.2) [] []) >>= fun r => .ok (.dct false r.1.1 r.1.2, unwipe p.2 vs 0 r.2)
section
variable {X : Cx} {W : WX} {En : Ent} {kx vx ta ia tb ib : Expr} {po : Pos}
theorem dc2_go {vs vs1 : List Nat} {bd bd1 : D → Ga → Option Ga} {fk fe : Ga → R (Res × Ga)} {it it1 : Ga → R (List D × Ga)} {js js1 : List Nat} {wi : TI} {Wi : WX} (hj : ∀ j ∈ js, j ∈ vs) (nm : NoMu bd) (hj1 : ∀ j ∈ js1, j ∈ vs1) (nm1 : NoMu bd1) (hv : ∀ i ∈ vs1, i ∈ vs)
    (hi : ∀ σ H P γ R, Sat X.K X.mg En P σ H γ → PostG X Wi En (repI X) σ P H γ R (it γ) → wi σ H R)
    {σ : L2.St} {H P : Hp} {γ : Ga} {Q : VK} (S : Sat X.K X.mg En P σ H γ) (q : PostG X Wi En (repF X) σ P H γ Q (compD2 it bd it1 bd1 fk fe vs vs1 γ)) : tDc2 wi (uG X En js bd) (uI X En it1) (uG X En js1 bd1) (uE X En fk) (uE X En fe) vs vs1 σ H Q := by
  refine hi σ H P γ _ S ?_
  unfold compD2 at q
  cases e0 : it γ with
  | no => rw [e0] at q; exact q
  | exc c => rw [e0] at q; exact q
  | ok r0 =>
  obtain ⟨ds, γ1⟩ := r0
  rw [e0, R.ok_bind] at q
  intro J H1 P1 S1 T1 items D hD
  have q := q.later T1 (fun P' H' σ a b => hrepF H H1 P' H' σ a b T1.dom)
  simp only at q
  have nM : ¬ MuAt En.T σ γ1 D := fun z => ((z.there S1).2 hD).elim
  have n0 : En.H0 D = none := Classical.byContradiction fun z => S1.dom D z hD
  have nP : P1 D = none := fresh_back S1.sub hD
  let C : R ((List DK × List DL.D) × Ga) → Prop := fun r => PostG X Wi En (repF X) σ P1 H1 γ1 Q (noX r >>= fun (r : (List DK × List DL.D) × Ga) => .ok (.dct false r.1.1 r.1.2, unwipe γ1 vs 0 r.2))
  have hC : ¬ C .no := fun z => z
  refine ⟨fun i m H' => ∃ P' γ' kvs ks us, Sat X.K X.mg En P' (L2.wipe σ vs) H' (wipeG vs 0 γ') ∧ H' D = some (.dK kvs) ∧ P' D = none ∧ Own X.K X.mg P' H' (.dct false ks us) D ∧ i + m = ds.length ∧ Stg (MuAt En.T σ γ1) P1 H1 P' H' ∧
    (∀ a, MuAt En.T (L2.wipe σ vs) (wipeG vs 0 γ') a → MuAt En.T σ γ1 a) ∧ C (loopD2 bd it1 bd1 fk fe vs vs1 (ds.drop i) (wipeG vs 0 γ') ks us),
    ⟨ds.length, P1, γ1, [], [], [], (S1.wipe (vs := vs)).gr (Gr.up S1.sub (Ex.new hD)), upd_same, nP, .inr (.inl ⟨_, _, _, rfl, upd_same, .nil, .nil⟩), Nat.zero_add _, (Gr.up S1.sub (Ex.new hD)).g, fun a h => h.wipe, q⟩, ?_⟩
  rintro i m H' ⟨P', γ', kvs, ks, us, S', hDl, hPD, ow, him, T', hmu, q'⟩
  cases m with
  | zero =>
    have hd : ds.drop i = [] := List.drop_eq_nil_of_le (by omega)
    rw [hd] at q'
    refine .inl ⟨?_, ?_⟩
    · have := items.2 P' H' T'.ph S'.sub
      rw [← him, Nat.add_zero] at this
      exact this
    · have q2 : PostG X Wi En (repF X) σ P1 H1 γ1 Q (.ok (.dct false ks us, unwipe γ1 vs 0 (wipeG vs 0 γ'))) := q'
      refine q2 _ H' P' (S'.unwipe fun i d h => ?_) ⟨T'.ph, T'.new, T'.keep, T'.dom, fun a h => hmu a h.unwipe, T'.tups⟩ ⟨D, rfl, hD, hPD, ow⟩
      obtain ⟨v, h1, h2⟩ := S1.pu i d h
      exact ⟨v, h1, h2.mono T'.ph⟩
  | succ m =>
    have hi : i < ds.length := by omega
    have hd : ds.drop i = ds[i] :: ds.drop (i + 1) := List.drop_eq_getElem_cons hi
    rw [hd] at q'
    obtain ⟨hgo, hy⟩ := items.1 i ds[i] (List.getElem?_eq_getElem hi) P' H' T'.ph S'.sub
    refine .inr ⟨hgo, _, fun H'' h => ⟨m, Nat.lt_succ_self m, h⟩, fun x H2 y => ?_⟩
    obtain ⟨P2, g2, r2⟩ := hy x H2 y
    have S2 := S'.gr g2
    unfold loopD2 at q'
    obtain ⟨γ3, e3, q3⟩ := ofO_ok (C := C) hC q'
    refine ⟨P2, _, _, γ3, S2, r2, e3, fun σ3 S3 b3 => ?_⟩
    have hw : L2.wipe σ3 vs = L2.wipe σ vs := wipe_but b3 hj
    refine ⟨by rw [hw], P2, γ3, S3, ?_⟩
    obtain ⟨⟨ds1, γ5⟩, e5, q5⟩ := noX_bind (C := C) hC q3
    rw [e5]
    intro J1 H4 P4 S5 T4 items1
    simp only at q5
    split at q5
    rotate_left
    · exact absurd q5 hC
    rename_i hlen
    have M3 : ∀ a, MuAt En.T σ3 γ3 a → MuAt En.T σ γ1 a := fun a h => by
      rcases h with ⟨i, d, h1, h2⟩ | h
      · have h3 := nm _ _ _ _ _ e3 h1
        obtain ⟨h4, n4⟩ := wipeG_mu (by simp) h3
        rw [b3.2 i fun z => n4 (hj i z)] at h2
        exact hmu a (.inl ⟨i, d, h3, h2⟩)
      · exact .inr h
    have G2 : Stg (MuAt En.T σ γ1) P1 H1 P2 H2 := T'.trans g2.g
    have O2 := (g2.g (M := MuAt En.T σ γ1)).own hPD hDl trivial nM
    have G4 : Stg (MuAt En.T σ γ1) P2 H2 P4 H4 := T4.g.mono M3
    have O4 := G4.own O2.1 O2.2 trivial nM
    have M5 : ∀ a, MuAt En.T σ3 γ5 a → MuAt En.T σ γ1 a := fun a h => M3 a (T4.mus a h)
    have same : ∀ {H'' : Hp}, H'' D = some (.dK kvs) → ∀ o, H' D = some o → H'' D = some o := fun h o e => by rw [hDl] at e; cases e; exact h
    have ow4 := ow.mono (g2.p.trans T4.ph) (same O4.2)
    have hkl : kvs.length = ks.length := by
      rcases ow with ⟨_, _, e0, _⟩ | ⟨ks', us', kvs', e0, h', hk', r'⟩ | ⟨_, _, _, e0, _⟩
      · cases e0
      · cases e0
        rw [hDl] at h'
        cases h'
        rw [ksk_len hk', List.length_map]
      · cases e0
    let C1 : R ((List DK × List DL.D) × Ga) → Prop := fun r => C (noX r >>= fun r => loopD2 bd it1 bd1 fk fe vs vs1 (ds.drop (i + 1)) (wipeG vs 0 r.2) r.1.1 r.1.2)
    have hC1 : ¬ C1 .no := fun z => z
    refine ⟨fun j k H' => ∃ P' γ' kvs ks' us', Sat X.K X.mg En P' (L2.wipe σ3 vs1) H' (wipeG vs1 0 γ') ∧ H' D = some (.dK kvs) ∧ P' D = none ∧ Own X.K X.mg P' H' (.dct false ks' us') D ∧ kvs.length ≤ ks.length + j ∧ j + k = ds1.length ∧ Stg (MuAt En.T σ γ1) P1 H1 P' H' ∧
      (∀ a, MuAt En.T (L2.wipe σ3 vs1) (wipeG vs1 0 γ') a → MuAt En.T σ γ1 a) ∧ Ex P4 P' ∧ C1 (loopD bd1 tYesG fk fe vs1 (ds1.drop j) (wipeG vs1 0 γ') ks' us'),
      ⟨ds1.length, P4, γ5, kvs, ks, us, S5.wipe (vs := vs1), O4.2, O4.1, ow4, by omega, Nat.zero_add _, G2.trans G4, fun a h => M5 a h.wipe, Ex.refl P4, q5⟩, ?_⟩
    rintro j k H5 ⟨Pa, γa, kva, ka, ua, Sa, hDa, hPa, owa, hla, hja, Ta, hma, xa, qa⟩
    cases k with
    | zero =>
      have hd1 : ds1.drop j = [] := List.drop_eq_nil_of_le (by omega)
      rw [hd1] at qa
      refine .inl ⟨?_, ?_⟩
      · have := items1.2 Pa H5 xa Sa.sub
        rw [← hja, Nat.add_zero] at this
        exact this
      · have q2 : C (loopD2 bd it1 bd1 fk fe vs vs1 (ds.drop (i + 1)) (wipeG vs 0 (wipeG vs1 0 γa)) ka ua) := qa
        have Sw := Sa.wipe (vs := vs)
        rw [wipe_sub hv, hw] at Sw
        exact ⟨Pa, wipeG vs1 0 γa, kva, ka, ua, Sw, hDa, hPa, owa, by omega, Ta, fun a h => hma a (MuAt.wipe (vs := vs) (by rw [wipe_sub hv, hw]; exact h)), q2⟩
    | succ k =>
      have hj2 : j < ds1.length := by omega
      have hd1 : ds1.drop j = ds1[j] :: ds1.drop (j + 1) := List.drop_eq_getElem_cons hj2
      rw [hd1] at qa
      obtain ⟨hgo1, hy1⟩ := items1.1 j ds1[j] (List.getElem?_eq_getElem hj2) Pa H5 xa Sa.sub
      refine .inr ⟨hgo1, _, fun H'' h => ⟨k, Nat.lt_succ_self k, h⟩, fun x1 H6 y1 => ?_⟩
      obtain ⟨Pb, gb, rb⟩ := hy1 x1 H6 y1
      have Sb := Sa.gr gb
      unfold loopD at qa
      obtain ⟨γb, eb, qb⟩ := ofO_ok (C := C1) hC1 qa
      refine ⟨Pb, _, _, γb, Sb, rb, eb, fun σ5 Sc bc => ?_⟩
      have hw1 : L2.wipe σ5 vs1 = L2.wipe σ3 vs1 := wipe_but bc hj1
      refine ⟨by rw [hw1], Pb, γb, Sc, ?_⟩
      have Mb : ∀ a, MuAt En.T σ5 γb a → MuAt En.T σ γ1 a := fun a h => by
        rcases h with ⟨i, d, h1, h2⟩ | h
        · have h3 := nm1 _ _ _ _ _ eb h1
          obtain ⟨h4, n4⟩ := wipeG_mu (by simp) h3
          rw [bc.2 i fun z => n4 (hj1 i z)] at h2
          exact hma a (.inl ⟨i, d, h3, h2⟩)
        · exact .inr h
      have Gb : Stg (MuAt En.T σ γ1) P1 H1 Pb H6 := Ta.trans gb.g
      have Ob := (gb.g (M := MuAt En.T σ γ1)).own hPa hDa trivial nM
      have qb : C1 (noX (fk γb) >>= fun q => valOf q.1 >>= fun x => noX (fe q.2) >>= fun r => valOf r.1 >>= fun y => ofO x.key >>= fun k => if k.isT = true then .no else loopD bd1 tYesG fk fe vs1 (ds1.drop (j + 1)) (wipeG vs1 0 r.2) (dPutK ka k) (dPutV ka ua k y)) := qb
      obtain ⟨⟨rk, γc⟩, ec, qc⟩ := noX_bind (C := C1) hC1 qb
      rw [ec]
      intro y H7 Pc Sd Tc rv
      obtain ⟨dk, ed, qd⟩ := valOf_bind (C := C1) hC1 qc
      simp only at ed
      subst ed
      have rv : Rep X.K X.mg Pc dk y := rv
      have Gc : Stg (MuAt En.T σ γ1) Pb H6 Pc H7 := Tc.g.mono Mb
      have Oc := Gc.own Ob.1 Ob.2 trivial nM
      have Mc : ∀ a, MuAt En.T σ5 γc a → MuAt En.T σ γ1 a := fun a h => Mb a (Tc.mus a h)
      refine ⟨Pc, γc, Sd, ?_⟩
      obtain ⟨⟨rr, γd⟩, ee, qe⟩ := noX_bind (C := C1) hC1 qd
      rw [ee]
      intro z H8 Pd Se Td rz
      obtain ⟨dv, ef, qf⟩ := valOf_bind (C := C1) hC1 qe
      simp only at ef
      subst ef
      have rz : Rep X.K X.mg Pd dv z := rz
      have Gd : Stg (MuAt En.T σ γ1) Pc H7 Pd H8 := Td.g.mono Mc
      have Od := Gd.own Oc.1 Oc.2 trivial nM
      have Md : ∀ a, MuAt En.T (L2.wipe σ3 vs1) (wipeG vs1 0 γd) a → MuAt En.T σ γ1 a := fun a h => Mc a (Td.mus a (MuAt.wipe (vs := vs1) (by rw [hw1]; exact h)))
      obtain ⟨kk, eg, qg⟩ := ofO_ok (C := C1) hC1 qf
      split at qg
      · exact absurd qg hC1
      rename_i hT
      have hT : kk.isT = false := by simpa using hT
      have rkey : y = kV (keyK kk) := key_flat (H := H7) eg hT (rv.w Sd.sub)
      have samea : ∀ {H'' : Hp}, H'' D = some (.dK kva) → ∀ o, H5 D = some o → H'' D = some o := fun h o e => by rw [hDa] at e; cases e; exact h
      have owd := owa.mono (gb.p.trans (Tc.ph.trans Td.ph)) (samea Od.2)
      rcases owd with ⟨_, _, ez, _⟩ | ⟨ks', us', kvs', ez, h', hk', r'⟩ | ⟨_, _, _, ez, _⟩
      · cases ez
      · cases ez
        rw [Od.2] at h'
        cases h'
        obtain ⟨f1, f2⟩ := hk'.is
        obtain ⟨p1, p2⟩ := put_gen keyK kk rz f1 r' fun z hz q => keyK_inj (f2 z hz) hT q
        have lk := length_putK kva (keyK kk) z
        refine ⟨kva, keyK kk, rkey, Od.2, by omega, Pd, γd, putK kva (keyK kk) z, dPutK ka kk, dPutV ka ua kk dv, (hw1 ▸ Se.wipe (vs := vs1)).upd Od.1 n0 Od.2 trivial (fun φ z => by cases z) fun z => nM (Md _ z), upd_same, Od.1, .inr (.inl ⟨_, _, _, rfl, upd_same, ?_, p2⟩), by omega, by omega, (Gb.trans (Gc.trans Gd)).put hD, Md, xa.trans (gb.p.trans (Tc.ph.trans Td.ph)), qg⟩
        rw [p1]
        exact KsK.of fun x hx => by
          unfold dPutK at hx
          split at hx
          · exact f2 x hx
          · rcases List.mem_append.mp hx with h | h
            · exact f2 x h
            · have : x = kk := by simpa using h
              rw [this]; exact hT
      · cases ez
theorem ef_dc2 {sco : Scope} {own : List (Str × Nat)} {vs1 : List Nat} {bd bd1 : D → Ga → Option Ga} {fk fe : Ga → R (Res × Ga)} {it it1 : Ga → R (List D × Ga)} {js js1 : List Nat} (hc : X.calm = true) (hN : X.N.Nodup) (hi : EvI X W En ta ia it) (ok : BlkOk X.N X.env.scope sco own)
    (hj : ∀ j ∈ js, j ∈ own.map (·.2)) (nm : NoMu bd) (hj1 : ∀ j ∈ js1, j ∈ vs1) (nm1 : NoMu bd1) (hv : ∀ i ∈ vs1, i ∈ own.map (·.2))
    (hg : ∀ s H C cl fp, EvG (BX X sco s H C cl fp) En js ta bd) (hi1 : ∀ s H C cl fp, EvI (BX X sco s H C cl fp) W0 En tb ib it1) (hg1 : ∀ s H C cl fp, EvG (BX X sco s H C cl fp) En js1 tb bd1)
    (hk : ∀ s H C cl fp, Ev (BX X sco s H C cl fp) W0 En kx fk) (he : ∀ s H C cl fp, Ev (BX X sco s H C cl fp) W0 En vx fe)
    (hs : ∀ x, foldedSetIterable ia X.env x = pure x := by intro _; rfl) (hs1 : ∀ env x, foldedSetIterable ib env x = pure x := by intro _ _; rfl) : EvF X W En (.DictComp kx vx [⟨ta, ia, [], 0⟩, ⟨tb, ib, [], 0⟩] sco po) (compD2 it bd it1 bd1 fk fe (own.map (·.2)) vs1) := by
  obtain ⟨wi, pi, hi⟩ := hi
  exact ⟨_, pe_dc2 hc hN pi ok hv (fun s H C cl fp => (hg s H C cl fp).u) (fun s H C cl fp => (hi1 s H C cl fp).u) (fun s H C cl fp => (hg1 s H C cl fp).u) (fun s H C cl fp => (hk s H C cl fp).u) (fun s H C cl fp => (he s H C cl fp).u) hs hs1, fun σ H P γ Q S q => dc2_go hj nm hj1 nm1 hv hi S q⟩
end
/-! ### def f( *xs ), by its body -/
theorem cl_DV {P : Program} {w : World} {K : PySem.W.Frag} {mg : Str → Option Value} {base : Heap} {x y : Str} {st : Stmt} {N : List Str} {k : Nat} {T : List (Addr × Str)} {h : Ga → R (Fl × Ga)} (D : Df K mg x st) (S : FnScope N [y] (defScope st))
    (hb : ∀ (kV doc pm : Value) (an : Option Addr) (cdv ct : Value) (us : List Value), us ≠ [] → bindArgs (PySem.W.fnOf x x (defArgs st) (defBody st) (defScope st) .none kV doc pm an cdv ct) ⟨us, []⟩ = (newTuple us >>= fun t => pure [(y, t)]))
    (hbody : ∀ (f : Addr) (cdv : Value) (A : Around) (outer : List Env) (s : Shared) (H : Hp) (E : XK) (P0 : Hp) (σ0 : L2.St), Bo (cxOf (L2.CX P w) P w K mg base N x (defScope st) f cdv A outer s H E) (fun cls d _ H' => E cls d H') k →
      PassesOwn (model P w) (A.deeper (envOfC x (defScope st) s.heap.objs.size f cdv)) (envOfC x (defScope st) s.heap.objs.size f cdv) (cxOf (L2.CX P w) P w K mg base N x (defScope st) f cdv A outer s H E).xe →
      EvSs (cxOf (L2.CX P w) P w K mg base N x (defScope st) f cdv A outer s H E) (fun cls d _ H' => E cls d H') ⟨H, P0, σ0, [], T⟩ (defBody st) h) : ClV P w K mg base T x (k + 1) (mDef 1 (N.length - 1) h) := by
  obtain ⟨f, fd, hm, F⟩ := D.ex
  have kp := F.kp
  obtain ⟨oc, od, kV, doc, pm, an, cdv, ct, osl, rfl, lk, hcd⟩ := F.ex
  refine ⟨f, fn_ofV lk hcd S (hb kV doc pm an cdv ct) fun A outer s H vs Q hr ⟨hl, P0, γ, S0, q⟩ _ => ?_, hm, kp⟩
  obtain ⟨t, pt, ht⟩ := hbody f cdv A outer s H (fun _ _ _ => False) P0 (vs.map some) ⟨rfl, S.nd, takes_of rfl rfl rfl rfl, hr⟩ (passes_of (X := cxOf (L2.CX P w) P w K mg base N x (defScope st) f cdv A outer s H (fun _ _ _ => False)) rfl)
  refine ⟨t, pt, ht _ H P0 (γ ++ List.replicate (N.length - 1) .un) _ (by
    have := S0.start (N.length - 1)
    unfold L2.start
    rw [hl]
    exact this) ?_⟩
  unfold mDef at q
  cases e : h (γ ++ List.replicate (N.length - 1) .un) with
  | no => rw [e] at q; exact q.elim
  | exc c => rw [e] at q; exact fun σ' H' cls kp tb m => q H' cls kp tb m
  | ok r =>
    obtain ⟨fl, γ'⟩ := r
    rw [e, R.ok_bind] at q
    cases fl with
    | next => exact fun σ' H' P' S' x => q .non σ' H' P' γ' S' x rfl .non
    | ret d => exact fun v σ' H' P' S' x r => q v σ' H' P' γ' S' x rfl r
    | brk => exact q.elim
    | cont => exact q.elim
end DL
end
section
set_option Elab.async false
set_option linter.all false
set_option maxRecDepth 100000
namespace DL
open PySem L2 Evl PySem.Spec PyProof.Rows LamX

/-! ### {t: v}, a dict of one pair, the key a tuple -/
def tDisp1T (tk tv : TE) : TE := fun σ H Q => ∀ p, H p = none → tk σ (upd H p (.dT [])) fun x H1 => tv σ H1 fun y H2 => ∃ (b : Addr) (ks : List Key), x = .ref b ∧ H2 b = some (.tup (ks.map kV)) ∧ H2 p = some (.dT []) ∧ Q (.ref p) (upd H2 p (.dT [(ks, y)]))
section
variable {X : Cx} {W : WX} {En : Ent} {ke ve : Expr} {pos : Pos} {tk tv : TE} {fk fv : Ga → R (Res × Ga)}
theorem pe_disp1T (hu : X.A.units + 1 < cLine) (hk : PE X ke tk) (hv : PE X ve tv) : PE X (.Dict [some ke] [ve] pos) (tDisp1T tk tv) := by
  refine ⟨fun pins s σ H Q I q => ?_⟩
  have hn := I.hok.fresh (Nat.le_refl s.heap.objs.size)
  have I1 := I.laid (a := s.heap.objs.size) (o := .dT []) (h' := s.heap.push { cls := .type "dict", data := .dict #[] }) (t' := s.toks) (fun _ _ q => Heap.get?_push_of_some _ q) (Nat.le_refl _) (dt_empty s.heap I.big)
  rw [arm_eval_Dict, zip_pairTrees [some ke] [ve] X.env pos rfl rfl, dictDisplay_pairs (pairTrees [some ke] [ve] X.env pos) (by simp [pairTrees]) (show (1 : Nat) < 17 by decide)]
  refine wpAny_bind (wpAny_standAt (wpAny_bind ?_))
  unfold subDict
  refine wpAny_bind (wpAny_alloc (wpAny_bind (wpAny_holding ?_)))
  rw [if_pos (show (pairTrees [some ke] [ve] X.env pos).length ≤ 15 from (show (1 : Nat) ≤ 15 by decide))]
  refine wpAny_bind (pairTrees_cons_walk (thn (hk.run pins _ σ _ _ I1 (q _ hn)) fun u s1 ⟨x, H1, J1, rx, q1⟩ => thn (hv.run pins s1 σ H1 _ J1 q1) fun r s2 ⟨y, H2, J2, ry, b, ks, ex, hb, hp, q2⟩ => pairTrees_nil_walk ?_))
  subst ex
  obtain rfl : u = Value.ref b := rx
  refine wpAny_holding ?_
  rw [List.forIn_cons]
  obtain ⟨z, hd, xs, rel, dd⟩ := dt_of J2.hok hp
  have hxs : xs = [] := List.eq_nil_of_length_eq_zero (by rw [← Paired.length rel]; rfl)
  refine wpAny_bind (wpAny_bind (wpAny_bind (wpAny_dictSet_heap (hsz := by rw [hxs]; exact Nat.zero_le _) (show (tupleKind (mixKind X.prog X.w)).room X.A from by first | exact hu | exact Nat.lt_of_succ_lt hu) (key_of J2.hok hb) dd fun h' dd' hs => wpAny_pure ?_)))
  show wpAny _ _ (forIn ([] : List (Value × Value)) PUnit.unit _) _ _ _
  rw [List.forIn_nil]
  refine wpAny_pure (wpAny_pure (wpAny_pure (wpAny_pure ?_)))
  refine ⟨.ref s.heap.objs.size, _, ?_, rfl, q2⟩
  obtain ⟨qo, es, ep, hq, g2, g3, g4, _, g5⟩ := dd'
  have hne : s.heap.objs.size ≠ b := fun e => by rw [e, hb] at hp; cases hp
  have rn := rel.put ks hb ry
  refine d_write J2 (by rw [hp]; exact True.intro) hs ⟨qo, hq⟩ ⟨(by show (1 : Nat) ≤ sizeLine; rw [sizeLine_eq]; decide), hd, _, rn.keeps fun c ys ec => ?_, qo, es, ep, hq, g2, g3, g4, g5⟩
  rw [upd_ne (ne_of ec hp (fun z => nomatch z))]
  exact ec
def fDisp1T (fk fv : Ga → R (Res × Ga)) : Ga → R (D × Ga) := fun γ => noX (fk γ) >>= fun p => valOf p.1 >>= fun x => noX (fv p.2) >>= fun q => valOf q.1 >>= fun y => match x.key with
  | some (.t ks) => .ok (.dct true [.t ks] [y], q.2)
  | _ => .no
theorem ef_disp1T (hu : X.A.units + 1 < cLine) (hk : Ev X W En ke fk) (hv : Ev X W En ve fv) : EvF X W En (.Dict [some ke] [ve] pos) (fDisp1T fk fv) := by
  obtain ⟨tk, pk, hk⟩ := hk
  obtain ⟨tv, pv, hv⟩ := hv
  refine ⟨_, pe_disp1T hu pk pv, fun σ H P γ Q S q p n => ?_⟩
  have S0 := S.gr (Gr.up S.sub (Ex.new (o := .dT []) n))
  refine hk σ _ P γ _ S0 ?_
  unfold fDisp1T at q
  have nM : ¬ MuAt En.T σ γ p := fun z => ((z.there S).2 n).elim
  have n0 : En.H0 p = none := Classical.byContradiction fun z => S.dom p z n
  let C : R (D × Ga) → Prop := fun r => PostG X W En (repF X) σ P H γ Q r
  have hC : ¬ C .no := fun z => z
  obtain ⟨⟨r1, γ1⟩, e1, q⟩ := noX_bind (C := C) hC q
  rw [e1]
  intro x H1 P1 S1 T1 rx
  obtain ⟨dk, e2, q⟩ := valOf_bind (C := C) hC q
  simp only at e2
  subst e2
  have rx : Rep X.K X.mg P1 dk x := rx
  refine hv σ H1 P1 γ1 _ S1 ?_
  obtain ⟨⟨r2, γ2⟩, e3, q⟩ := noX_bind (C := C) hC q
  simp only at e3
  rw [e3]
  intro y H2 P2 S2 T2 ry
  obtain ⟨dv, e4, q⟩ := valOf_bind (C := C) hC q
  simp only at e4
  subst e4
  have ry : Rep X.K X.mg P2 dv y := ry
  simp only at q
  split at q
  · rename_i ks hkey
    obtain ⟨b, ex, hb⟩ := key_tup S1.sub hkey rfl (rx.w S1.sub)
    have O1 := T1.g.own (fresh_back S.sub n) upd_same trivial nM
    have nM1 : ¬ MuAt En.T σ γ1 p := fun z => nM (T1.mus p z)
    have O2 := T2.g.own O1.1 O1.2 trivial nM1
    have hb2 : H2 b = some (.tup ((keyT (.t ks)).map kV)) := T2.tups b _ hb
    have nM2 : ¬ MuAt En.T σ γ2 p := fun z => nM1 (T2.mus p z)
    have T12 := T1.trans T2
    have G := ((Gr.up S.sub (Ex.new (o := .dT []) n)).g (M := MuAt En.T σ γ)).trans T12.g
    have G3 := G.put (o := .dT [(keyT (.t ks), y)]) n
    exact ⟨b, keyT (.t ks), ex, hb2, O2.2, q _ _ P2 (S2.upd O2.1 n0 O2.2 trivial (fun φ z => by cases z) nM2) ⟨G3.ph, G3.new, G3.keep, G3.dom, T12.mus, G3.tups⟩ ⟨p, rfl, n, O2.1, .inr (.inr ⟨_, _, _, rfl, upd_same, .t .nil, .cons ry .nil⟩)⟩⟩
  · exact absurd q hC
end
end DL
end
section
set_option Elab.async false
set_option linter.all false
set_option maxRecDepth 100000
namespace DL
open PySem L2 Evl PySem.Spec PyProof.Rows LamX
/-! ### repr of truths, ord -/
section
variable {X : Cx}
theorem call_repr_bl : CallR X (.builtin "repr") (fun xs H Q => ∃ b, xs = [.bl b] ∧ Q (.str (if b = true then strV [84, 114, 117, 101] else strV [70, 97, 108, 115, 101])) H) := by
  intro pins s σ H xs us Q I r h
  obtain ⟨b, rfl, q⟩ := h
  obtain ⟨u, rfl, e⟩ := vals1 r
  obtain rfl : u = Value.bool b := e
  refine PySem.P.repr_of_bool ⟨.str _, H, I.tok _, ⟨_, rfl⟩, ?_⟩
  cases b with
  | true => exact (show strV [84, 114, 117, 101] = Str.ofString "True" by kernel_rfl) ▸ q
  | false => exact (show strV [70, 97, 108, 115, 101] = Str.ofString "False" by kernel_rfl) ▸ q
def dRepr : List D → Option D
  | [.bl true] => some (.str [84, 114, 117, 101])
  | [.bl false] => some (.str [70, 97, 108, 115, 101])
  | _ => none
theorem cs_repr : CallS X (fun xs H Q => ∃ b, xs = [.bl b] ∧ Q (.str (if b = true then strV [84, 114, 117, 101] else strV [70, 97, 108, 115, 101])) H) dRepr := fun P H xs as d Q e r hf q => by
  unfold dRepr at hf
  split at hf <;> first | cases hf | skip
  · obtain ⟨v, rfl, r1⟩ := r.one; clear r
    cases r1
    exact ⟨true, rfl, q _ _ _ (.refl e) (.str _ (by rw [sizeLine_eq]; decide))⟩
  · obtain ⟨v, rfl, r1⟩ := r.one; clear r
    cases r1
    exact ⟨false, rfl, q _ _ _ (.refl e) (.str _ (by rw [sizeLine_eq]; decide))⟩
def dOrd : List D → Option D
  | [.str [c]] => some (.int c)
  | _ => none
theorem cs_ord : CallS X (fun xs H Q => ∃ x, xs = [.str x] ∧ x.length = 1 ∧ Q (.int (x.cps.getD 0 0 : Nat)) H) dOrd := fun P H xs as d Q e r hf q => by
  unfold dOrd at hf
  split at hf <;> first | cases hf | skip
  · obtain ⟨v, rfl, r1⟩ := r.one; clear r
    cases r1
    exact ⟨_, rfl, by rw [len_strV']; rfl, q _ _ _ (.refl e) (.int _)⟩
theorem bt_repr : bootBuiltins (Str.ofString "repr") = some (.builtin "repr") := by kernel_rfl
theorem bt_ord : bootBuiltins (Str.ofString "ord") = some (.builtin "ord") := by kernel_rfl
end
end DL
end
section
set_option Elab.async false
set_option linter.all false
set_option maxRecDepth 100000
namespace DL
open PySem

/-! ### texts, plain: stretches, factors -/
theorem sIx_nat (n d i : Nat) : HT.sIx n d (some (i : Int)) = min i n := by
  unfold HT.sIx
  simp
  try omega
theorem cut_ij {α : Type} (xs : List α) (i j : Nat) : cutL xs (some (i : Int)) (some (j : Int)) = (xs.take j).drop i := by
  unfold cutL
  rw [sIx_nat, sIx_nat, List.drop_take]
  by_cases h : j ≤ xs.length
  · rw [Nat.min_eq_left h]
    by_cases g : i ≤ xs.length
    · rw [Nat.min_eq_left g]
    · rw [List.drop_eq_nil_of_le (by omega), List.drop_eq_nil_of_le (by omega)]; simp
  · rw [Nat.min_eq_right (by omega)]
    by_cases g : i ≤ xs.length
    · rw [Nat.min_eq_left g, List.take_of_length_le (by simp), List.take_of_length_le (by simp; omega)]
    · rw [List.drop_eq_nil_of_le (by omega), List.drop_eq_nil_of_le (by omega)]; simp
theorem cut_i {α : Type} (xs : List α) (i : Nat) : cutL xs (some (i : Int)) none = xs.drop i := by
  have e : HT.sIx xs.length xs.length none = xs.length := by unfold HT.sIx; simp
  unfold cutL
  rw [sIx_nat, e]
  by_cases g : i ≤ xs.length
  · rw [Nat.min_eq_left g, List.take_of_length_le (by simp)]
  · rw [List.drop_eq_nil_of_le (by omega), List.drop_eq_nil_of_le (by omega)]; simp
theorem cut_j {α : Type} (xs : List α) (j : Nat) : cutL xs none (some (j : Int)) = xs.take j := by
  have e : HT.sIx xs.length 0 none = 0 := by unfold HT.sIx; simp
  unfold cutL
  rw [sIx_nat, e]
  by_cases h : j ≤ xs.length
  · rw [Nat.min_eq_left h]; simp
  · rw [Nat.min_eq_right (by omega), List.take_of_length_le (by simp), List.take_of_length_le (by omega)]; simp
theorem cut_m1 {α : Type} (xs : List α) : cutL xs none (some (-1)) = xs.take (xs.length - 1) := by
  have e : HT.sIx xs.length 0 none = 0 := by unfold HT.sIx; simp
  have e2 : HT.sIx xs.length xs.length (some (-1)) = xs.length - 1 := by unfold HT.sIx; simp; omega
  unfold cutL
  rw [e, e2]; simp
/-- a factor of a text -/
def Fac (x w : List Nat) : Prop := ∃ a b, w = a ++ x ++ b
theorem Fac.refl (w : List Nat) : Fac w w := ⟨[], [], by simp⟩
theorem Fac.nil (w : List Nat) : Fac [] w := ⟨[], w, by simp⟩
theorem Fac.trans {x y z : List Nat} (h : Fac x y) (g : Fac y z) : Fac x z := by
  obtain ⟨a, b, rfl⟩ := h
  obtain ⟨c, d, rfl⟩ := g
  exact ⟨c ++ a, b ++ d, by simp⟩
theorem Fac.drop (w : List Nat) (i : Nat) : Fac (w.drop i) w := ⟨w.take i, [], by simp⟩
theorem Fac.take (w : List Nat) (i : Nat) : Fac (w.take i) w := ⟨[], w.drop i, by simp⟩
theorem Fac.sl (w : List Nat) (i j : Nat) : Fac ((w.take j).drop i) w := (Fac.drop _ i).trans (Fac.take w j)
theorem fac_iff {x w : List Nat} : Fac x w ↔ ∃ i, i + x.length ≤ w.length ∧ (w.take (i + x.length)).drop i = x := by
  constructor
  · rintro ⟨a, b, rfl⟩
    refine ⟨a.length, by simp, ?_⟩
    rw [List.append_assoc, List.take_append, List.drop_append]
    simp
  · rintro ⟨i, h1, h2⟩
    rw [← h2]
    exact Fac.sl w i _
theorem isIn_fac {x w : List Nat} : isIn x w = true ↔ Fac x w := by
  rw [isIn_iff, fac_iff]
  constructor
  · rintro ⟨i, h1, h2⟩
    exact ⟨i, h1, by rw [List.drop_take, Nat.add_sub_cancel_left]; exact h2⟩
  · rintro ⟨i, h1, h2⟩
    exact ⟨i, h1, by rw [List.drop_take, Nat.add_sub_cancel_left] at h2; exact h2⟩
instance (x w : List Nat) : Decidable (Fac x w) := decidable_of_iff (isIn x w = true) isIn_fac
theorem isIn_dec (x w : List Nat) : isIn x w = decide (Fac x w) := by
  by_cases h : Fac x w
  · rw [isIn_fac.mpr h, decide_eq_true h]
  · rw [decide_eq_false h]
    cases e : isIn x w with
    | false => rfl
    | true => exact absurd (isIn_fac.mp e) h
end DL
end
section
set_option Elab.async false
set_option linter.all false
set_option maxRecDepth 100000
namespace DL
open PySem

/-! ### draws within expressions -/
section
variable {mp mc : List Sl → R (D × List Sl)} {γ : Ga} {a b c : Int} {ft items : Ga → R (Res × Ga)}
theorem pull_at (hp : PullOk mp) {t : Nat} (h0 : γ[0]? = some (Bg a b c)) (hf : Pv ft γ (.int t)) (t0 : 0 < t) (t1 : t < 1073741824) :
    ∃ (r : Nat) (a' b' c' : Int), r < t ∧ eCallD 2 [0] mp (aCons (eVar 0) (aCons ft aNil)) γ = .ok (.val (.int r), γ.set 0 (Bg a' b' c')) := by
  obtain ⟨r, a', b', c', r0, r1, e⟩ := hp a b c (t : Int) (by omega) (by omega)
  refine ⟨r.toNat, a', b', c', by omega, ?_⟩
  have hr : ((r.toNat : Nat) : Int) = r := by omega
  rw [hr]
  have hv : eVar 0 γ = .ok (.cell 0, γ) := by unfold eVar; rw [h0]
  have hm : muAt γ 0 = .ok (.lst [.int a, .int b, .int c]) := by unfold muAt; rw [h0]
  have hf : ft γ = .ok (.val (.int t), γ) := hf
  simp [eCallD, aCons, hv, hf, aNil, R.ok_bind, argSl, hm, cellPos, cellIx, e, backSl]
theorem choose_str (hp : PullOk mp) (hc : mc = mDef 2 0 (hChoose mp)) {s : List Nat} (h0 : 0 < s.length) (h1 : s.length < 1073741824) :
    ∃ d a' b' c', d ∈ s ∧ mc [Bg a b c, .pu (.str s)] = .ok (.str [d], [Bg a' b' c', .pu (.str s)]) := by
  obtain ⟨r, a', b', c', r0, r1, e⟩ := hp a b c (s.length : Int) (by omega) (by omega)
  have hr : r.toNat < s.length := by omega
  have hat : L2.atI s r = some s[r.toNat] := by
    unfold L2.atI L2.ixN
    rw [if_pos r0, if_pos r1]
    simp [hr]
  refine ⟨s[r.toNat], a', b', c', List.getElem_mem hr, ?_⟩
  subst hc
  unfold hChoose mDef
  simp [sRet, eOp2, eVar, eCallD, aCons, aNil, eCall, derefs, deref, dLen, ofO, bind, R.bind, argSl, muAt, cellPos, cellIx, e, backSl, dIx, hat, valOf]
theorem choose_at (hp : PullOk mp) (hc : mc = mDef 2 0 (hChoose mp)) {s : List Nat} (h0 : γ[0]? = some (Bg a b c)) (hf : Pv items γ (.str s)) (l0 : 0 < s.length) (l1 : s.length < 1073741824) :
    ∃ d a' b' c', d ∈ s ∧ eCallD 2 [0] mc (aCons (eVar 0) (aCons items aNil)) γ = .ok (.val (.str [d]), γ.set 0 (Bg a' b' c')) := by
  obtain ⟨d, a', b', c', hd, e⟩ := choose_str hp hc (a := a) (b := b) (c := c) l0 l1
  refine ⟨d, a', b', c', hd, ?_⟩
  have hv : eVar 0 γ = .ok (.cell 0, γ) := by unfold eVar; rw [h0]
  have hm : muAt γ 0 = .ok (.lst [.int a, .int b, .int c]) := by unfold muAt; rw [h0]
  have hf : items γ = .ok (.val (.str s), γ) := hf
  simp [eCallD, aCons, hv, hf, aNil, R.ok_bind, argSl, hm, cellPos, cellIx, e, backSl]
end
def abc : List Nat := [97, 98, 99]
def InAbc (w : List Nat) : Prop := ∀ c ∈ w, c ∈ abc
theorem InAbc.fac {x w : List Nat} (h : InAbc w) (f : Fac x w) : InAbc x := fun c hc => by
  obtain ⟨u, v, rfl⟩ := f
  exact h c (by simp [hc])
theorem InAbc.app {x y : List Nat} (h : InAbc x) (g : InAbc y) : InAbc (x ++ y) := fun c hc => by
  rcases List.mem_append.mp hc with z | z
  · exact h c z
  · exact g c z
/-! ### a drawn word -/
abbrev hWord (mp mc : List Sl → R (D × List Sl)) : Ga → R (Fl × Ga) :=
  sCons (sAsg (eSl (eC (.str [97, 98, 99])) oNone (oSome (eOp2 dAdd (eC (.int 1)) (eCallD 2 [0] mp (aCons (eVar 0) (aCons (eC (.int 3)) (aNil))))))) (bName 2))
  (sCons (sAsg (eMet "str" dJoin (eC (.str [])) (aCons (toE (compL (iRange rangeD1 (aCons (eCallD 2 [0] mp (aCons (eVar 0) (aCons (eOp2 dAdd (eVar 1) (eC (.int 1))) (aNil)))) (aNil))) (bName 6) (tYesG) (eCallD 2 [0] mc (aCons (eVar 0) (aCons (eVar 2) (aNil)))) [6])) aNil)) (bName 3))
  (sCons (sIf (tAnd (toT (eOp2 dNe (eVar 3) (eC (.str [])))) (toT (eOp2 dEq (eCallD 2 [0] mp (aCons (eVar 0) (aCons (eC (.int 2)) (aNil)))) (eC (.int 0))))) (sCons (sAsg (eOp2 dAdd (eC (.int 1)) (eCallD 2 [0] mp (aCons (eVar 0) (aCons (eCall dMin (aCons (eC (.int 4)) (aCons (eCall dLen (aCons (eVar 3) (aNil))) (aNil)))) (aNil))))) (bName 4))
  (sCons (sAsg (eSl (eOp2 dMul (eSl (eVar 3) oNone (oSome (eVar 4))) (eVar 1)) oNone (oSome (eCall dLen (aCons (eVar 3) (aNil))))) (bName 3))
  (sIf (toT (eOp2 dEq (eCallD 2 [0] mp (aCons (eVar 0) (aCons (eC (.int 3)) (aNil)))) (eC (.int 0)))) (sCons (sAsg (eCallD 2 [0] mp (aCons (eVar 0) (aCons (eCall dLen (aCons (eVar 3) (aNil))) (aNil)))) (bName 5))
  (sAsg (eOp2 dAdd (eOp2 dAdd (eSl (eVar 3) oNone (oSome (eVar 5))) (eCallD 2 [0] mc (aCons (eVar 0) (aCons (eC (.str [97, 98, 99])) (aNil))))) (eSl (eVar 3) (oSome (eOp2 dAdd (eVar 5) (eC (.int 1)))) oNone)) (bName 3))) (sNil)))) (sNil))
  (sRet (eVar 3))))
section
variable {mp mc : List Sl → R (D × List Sl)}
/-- letters drawn in a comprehension -/
theorem draw_loop (hp : PullOk mp) (hc : mc = mDef 2 0 (hChoose mp)) {s : List Nat} (l0 : 0 < s.length) (l1 : s.length < 1073741824) {most : D} : ∀ (ds : List D) (a b c : Int), ∃ (w : List Nat) (a' b' c' : Int), w.length = ds.length ∧ (∀ x ∈ w, x ∈ s) ∧
    loopC (bName 6) tYesG (eCallD 2 [0] mc (aCons (eVar 0) (aCons (eVar 2) (aNil)))) [6] ds [Bg a b c, .pu most, .pu (.str s), .un, .un, .un, .un] = .ok (w.map fun x => D.str [x], [Bg a' b' c', .pu most, .pu (.str s), .un, .un, .un, .un])
  | [], a, b, c => ⟨[], a, b, c, rfl, fun x h => (by simp at h), rfl⟩
  | d :: ds, a, b, c => by
    obtain ⟨x, a1, b1, c1, hx, e1⟩ := choose_at hp hc (γ := [Bg a b c, .pu most, .pu (.str s), .un, .un, .un, .pu d]) (a := a) (b := b) (c := c) (items := eVar 2) rfl (.var rfl) l0 l1
    obtain ⟨w, a2, b2, c2, h1, h2, e2⟩ := draw_loop hp hc l0 l1 (most := most) ds a1 b1 c1
    refine ⟨x :: w, a2, b2, c2, by simp [h1], fun y hy => ?_, ?_⟩
    · rcases List.mem_cons.mp hy with rfl | hy
      · exact hx
      · exact h2 y hy
    · unfold loopC
      rw [show bName 6 d [Bg a b c, .pu most, .pu (.str s), .un, .un, .un, .un] = some [Bg a b c, .pu most, .pu (.str s), .un, .un, .un, .pu d] from rfl]
      simp only [ofO, tYesG, noX, R.ok_bind, if_true]
      rw [e1]
      simp only [noX, R.ok_bind, valOf, List.set]
      show (loopC (bName 6) tYesG _ [6] ds [Bg a1 b1 c1, .pu most, .pu (.str s), .un, .un, .un, .un] >>= _) = _
      rw [e2]; rfl
end
theorem strs_map : ∀ (w : List Nat), strsOf (w.map fun x => D.str [x]) = some (w.map fun x => [x])
  | [] => rfl
  | x :: w => by
    have := strs_map w
    simp only [List.map_cons]
    unfold strsOf
    rw [this]
theorem join_ones : ∀ (w : List Nat), TL.joinL [] (w.map fun x => [x]) = w ∧ joinSz [] (w.map fun x => [x]) = w.length
  | [] => ⟨rfl, rfl⟩
  | [x] => ⟨rfl, rfl⟩
  | x :: y :: w => by
    obtain ⟨h1, h2⟩ := join_ones (y :: w)
    simp only [List.map_cons] at h1 h2 ⊢
    refine ⟨by simp only [TL.joinL, h1]; rfl, ?_⟩
    unfold joinSz at h2 ⊢
    simp only [List.map_cons, List.sum_cons, List.length_cons, List.length_nil] at h2 ⊢
    omega
theorem join_word {w : List Nat} (h : w.length ≤ 16777216) : dJoin (.str []) [.lst (w.map fun x => D.str [x])] = some (.str w) := by
  unfold dJoin
  simp only [strs_map, (join_ones w).1, (join_ones w).2, h, if_true]
end DL
end
section
set_option Elab.async false
set_option linter.all false
set_option maxRecDepth 100000
namespace DL
open PySem
/-! ### the same, the state may change on the way (objects of one's own handed over) -/
section
variable {γ γ1 γ2 γ3 : Ga} {f fa fb : Ga → R (Res × Ga)} {g : Ga → R (List Res × Ga)} {ft fs : Ga → R (Bool × Ga)} {a b d : D} {as : List D} {i : Nat} {k k2 : Bool}
abbrev Ef (f : Ga → R (Res × Ga)) (γ : Ga) (d : D) (γ' : Ga) : Prop := f γ = .ok (.val d, γ')
abbrev Efs (g : Ga → R (List Res × Ga)) (γ : Ga) (ds : List D) (γ' : Ga) : Prop := g γ = .ok (ds.map .val, γ')
abbrev Eb (ft : Ga → R (Bool × Ga)) (γ : Ga) (b : Bool) (γ' : Ga) : Prop := ft γ = .ok (b, γ')
abbrev Eo (fo : Ga → R (Option Int × Ga)) (γ : Ga) (o : Option Int) (γ' : Ga) : Prop := fo γ = .ok (o, γ')
theorem Ef.op1 {F : D → Option D} (h : Ef f γ a γ1) (e : F a = some d) : Ef (eOp1 F f) γ d γ1 := by
  show (f γ >>= _) = _
  rw [h]; show (ofO (F a) >>= _) = _
  rw [e]; rfl
theorem Ef.op2 {F : D → D → Option D} (ha : Ef fa γ a γ1) (hb : Ef fb γ1 b γ2) (e : F a b = some d) : Ef (eOp2 F fa fb) γ d γ2 := by
  show (fa γ >>= _) = _
  rw [ha]; show (fb γ1 >>= _) = _
  rw [hb]; show (ofO (F a b) >>= _) = _
  rw [e]; rfl
theorem Efs.nil : Efs aNil γ [] γ := rfl
theorem Efs.cons (h : Ef f γ d γ1) (hr : Efs g γ1 as γ2) : Efs (aCons f g) γ (d :: as) γ2 := by
  show (f γ >>= _) = _
  rw [h]; show (g γ1 >>= _) = _
  rw [hr]; rfl
theorem Ef.call {F : List D → Option D} (h : Efs g γ as γ1) (e : F as = some d) : Ef (eCall F g) γ d γ1 := by
  show (g γ >>= _) = _
  rw [h]; show (derefs γ1 (as.map .val) >>= _) = _
  rw [derefs_map]; show (ofO (F as) >>= _) = _
  rw [e]; rfl
theorem Ef.met {T : String} {F : D → List D → Option D} (ha : Ef fa γ a γ1) (h : Efs g γ1 as γ2) (ht : a.ty = T) (e : F a as = some d) : Ef (eMet T F fa g) γ d γ2 := by
  have ha : fa γ = .ok (.val a, γ1) := ha
  have h : g γ1 = .ok (as.map .val, γ2) := h
  show eMet T F fa g γ = _
  unfold eMet
  rw [ha, R.ok_bind]
  simp only [deref, R.ok_bind, if_pos ht, h, derefs_map, e, ofO]
theorem Ef.tup (h : Efs g γ as γ1) (hl : as.length ≤ sizeLine) : Ef (eTup g) γ (.tup as) γ1 := by
  show (g γ >>= _) = _
  rw [h]; show (vals (as.map .val) >>= _) = _
  rw [vals_map, R.ok_bind, if_pos hl]
theorem Ef.toE {f : Ga → R (D × Ga)} (h : f γ = .ok (d, γ1)) : Ef (DL.toE f) γ d γ1 := by unfold Ef DL.toE; rw [h]
theorem Eo.none : Eo oNone γ none γ := rfl
theorem Eo.some {n : Int} (h : Ef f γ (.int n) γ1) : Eo (oSome f) γ (some n) γ1 := by
  show (f γ >>= _) = _
  rw [h]; rfl
theorem Ef.sl {fl fh : Ga → R (Option Int × Ga)} {l h : Option Int} (ha : Ef fa γ a γ1) (hl : Eo fl γ1 l γ2) (hh : Eo fh γ2 h γ3) (e : dSl a l h = some d) : Ef (eSl fa fl fh) γ d γ3 := by
  show (fa γ >>= _) = _
  rw [ha]; show (fl γ1 >>= _) = _
  rw [hl]; show (fh γ2 >>= _) = _
  rw [hh]; show (ofO (dSl a l h) >>= _) = _
  rw [e]; rfl
theorem Eb.t (h : Ef f γ (.bl k) γ1) : Eb (toT f) γ k γ1 := by
  show (f γ >>= _) = _
  rw [h]; rfl
theorem Eb.tr (h : Ef f γ d γ1) (e : dTru d = some k) : Eb (toTr f) γ k γ1 := by
  show (f γ >>= _) = _
  rw [h]; show (ofO (dTru d) >>= _) = _
  rw [e]; rfl
theorem Eb.not (h : Eb ft γ k γ1) : Eb (tNot ft) γ (!k) γ1 := by
  show (ft γ >>= _) = _
  rw [h]; rfl
theorem Eb.and_no (h : Eb ft γ false γ1) : Eb (tAnd ft fs) γ false γ1 := by
  show (ft γ >>= _) = _
  rw [h]; rfl
theorem Eb.and_go (h : Eb ft γ true γ1) (h2 : Eb fs γ1 k γ2) : Eb (tAnd ft fs) γ k γ2 := by
  show (ft γ >>= _) = _
  rw [h]; exact h2
theorem Eb.or_yes (h : Eb ft γ true γ1) : Eb (tOr ft fs) γ true γ1 := by
  show (ft γ >>= _) = _
  rw [h]; rfl
theorem Eb.or_go (h : Eb ft γ false γ1) (h2 : Eb fs γ1 k γ2) : Eb (tOr ft fs) γ k γ2 := by
  show (ft γ >>= _) = _
  rw [h]; exact h2
theorem Nx.asgE {bd : D → Ga → Option Ga} (h : Ef f γ d γ1) (e : bd d γ1 = Option.some γ2) : Nx (sAsg f bd) γ γ2 := by
  show (f γ >>= _) = _
  rw [h]; show (ofO (bd d γ1) >>= _) = _
  rw [e]; rfl
theorem sIf_yes {h1 h2 : Ga → R (Fl × Ga)} (h : Eb ft γ true γ1) : sIf ft h1 h2 γ = h1 γ1 := by
  show (ft γ >>= _) = _
  rw [h]; rfl
theorem sIf_no {h1 h2 : Ga → R (Fl × Ga)} (h : Eb ft γ false γ1) : sIf ft h1 h2 γ = h2 γ1 := by
  show (ft γ >>= _) = _
  rw [h]; rfl
theorem Ir.range {F : List D → Option (List D)} {ds : List D} (h : Efs g γ as γ1) (e : F as = Option.some ds) : iRange F g γ = .ok (ds, γ1) := by
  show (g γ >>= _) = _
  rw [h]; show (derefs γ1 (as.map .val) >>= _) = _
  rw [derefs_map]; show (ofO (F as) >>= _) = _
  rw [e]; rfl
end
theorem rng_of (r : Nat) (h : r < 4611686018427387904) : rangeD1 [.int (r : Int)] = some (rng 0 r) := by
  have : okI (r : Int) = true := by
    unfold okI
    simp only [Bool.and_eq_true, decide_eq_true_eq]
    omega
  unfold rangeD1
  simp [this]
theorem dSl_j (s : List Nat) (j : Nat) : dSl (.str s) none (some (j : Int)) = some (.str (s.take j)) := by
  show some (D.str (cutL s none (some (j : Int)))) = _
  rw [cut_j]
theorem dSl_i (s : List Nat) (i : Nat) : dSl (.str s) (some (i : Int)) none = some (.str (s.drop i)) := by
  show some (D.str (cutL s (some (i : Int)) none)) = _
  rw [cut_i]
theorem dSl_ij (s : List Nat) (i j : Nat) : dSl (.str s) (some (i : Int)) (some (j : Int)) = some (.str ((s.take j).drop i)) := by
  show some (D.str (cutL s (some (i : Int)) (some (j : Int)))) = _
  rw [cut_ij]
theorem dSl_m1 (s : List Nat) : dSl (.str s) none (some (-1)) = some (.str (s.take (s.length - 1))) := by
  show some (D.str (cutL s none (some (-1)))) = _
  rw [cut_m1]
abbrev pullE (mp : List Sl → R (D × List Sl)) (f : Ga → R (Res × Ga)) : Ga → R (Res × Ga) := eCallD 2 [0] mp (aCons (eVar 0) (aCons f aNil))
abbrev wS1 (mp : List Sl → R (D × List Sl)) : Ga → R (Fl × Ga) := sAsg (eSl (eC (.str [97, 98, 99])) oNone (oSome (eOp2 dAdd (eC (.int 1)) (pullE mp (eC (.int 3)))))) (bName 2)
abbrev wS2 (mp mc : List Sl → R (D × List Sl)) : Ga → R (Fl × Ga) := sAsg (eMet "str" dJoin (eC (.str [])) (aCons (toE (compL (iRange rangeD1 (aCons (pullE mp (eOp2 dAdd (eVar 1) (eC (.int 1)))) (aNil))) (bName 6) (tYesG) (eCallD 2 [0] mc (aCons (eVar 0) (aCons (eVar 2) (aNil)))) [6])) aNil)) (bName 3)
abbrev wS4 (mp : List Sl → R (D × List Sl)) : Ga → R (Fl × Ga) := sAsg (eOp2 dAdd (eC (.int 1)) (pullE mp (eCall dMin (aCons (eC (.int 4)) (aCons (eCall dLen (aCons (eVar 3) (aNil))) (aNil)))))) (bName 4)
abbrev wS5 : Ga → R (Fl × Ga) := sAsg (eSl (eOp2 dMul (eSl (eVar 3) oNone (oSome (eVar 4))) (eVar 1)) oNone (oSome (eCall dLen (aCons (eVar 3) (aNil))))) (bName 3)
abbrev wS6 (mp : List Sl → R (D × List Sl)) : Ga → R (Fl × Ga) := sAsg (pullE mp (eCall dLen (aCons (eVar 3) (aNil)))) (bName 5)
abbrev wS7 (mc : List Sl → R (D × List Sl)) : Ga → R (Fl × Ga) := sAsg (eOp2 dAdd (eOp2 dAdd (eSl (eVar 3) oNone (oSome (eVar 5))) (eCallD 2 [0] mc (aCons (eVar 0) (aCons (eC (.str [97, 98, 99])) (aNil))))) (eSl (eVar 3) (oSome (eOp2 dAdd (eVar 5) (eC (.int 1)))) oNone)) (bName 3)
theorem hWord_eq (mp mc : List Sl → R (D × List Sl)) : hWord mp mc = sCons (wS1 mp) (sCons (wS2 mp mc)
  (sCons (sIf (tAnd (toT (eOp2 dNe (eVar 3) (eC (.str [])))) (toT (eOp2 dEq (pullE mp (eC (.int 2))) (eC (.int 0))))) (sCons (wS4 mp) (sCons wS5 (sIf (toT (eOp2 dEq (pullE mp (eC (.int 3))) (eC (.int 0)))) (sCons (wS6 mp) (wS7 mc)) sNil))) sNil) (sRet (eVar 3)))) := rfl
section
variable {mp mc : List Sl → R (D × List Sl)} (hp : PullOk mp) (hc : mc = mDef 2 0 (hChoose mp))
include hp
theorem w1 {most : Nat} {a b c : Int} : ∃ (k : Nat) (a' b' c' : Int), 1 ≤ k ∧ k ≤ 3 ∧ wS1 mp [Bg a b c, .pu (.int most), .un, .un, .un, .un, .un] = .ok (.next, [Bg a' b' c', .pu (.int most), .pu (.str (abc.take k)), .un, .un, .un, .un]) := by
  obtain ⟨r, a', b', c', hr, e⟩ := pull_at hp (γ := [Bg a b c, .pu (.int most), .un, .un, .un, .un, .un]) (t := 3) (ft := eC (.int 3)) rfl rfl (by decide) (by decide)
  refine ⟨1 + r, a', b', c', by omega, by omega, ?_⟩
  exact Nx.asgE (.sl (a := .str [97, 98, 99]) rfl .none (.some (.op2 (a := .int 1) rfl e (d := .int ((1 + r : Nat) : Int)) (by show some (D.int _) = _; congr 2))) (dSl_j abc (1 + r))) rfl
include hc
theorem w2 {most : Nat} (hm : most < 1000) {s : List Nat} (l0 : 0 < s.length) (l1 : s.length < 1000) {a b c : Int} : ∃ (w : List Nat) (a' b' c' : Int), w.length ≤ most ∧ (∀ x ∈ w, x ∈ s) ∧ wS2 mp mc [Bg a b c, .pu (.int most), .pu (.str s), .un, .un, .un, .un] = .ok (.next, [Bg a' b' c', .pu (.int most), .pu (.str s), .pu (.str w), .un, .un, .un]) := by
  obtain ⟨r, a1, b1, c1, hr, e⟩ := pull_at hp (γ := [Bg a b c, .pu (.int most), .pu (.str s), .un, .un, .un, .un]) (t := most + 1) (ft := eOp2 dAdd (eVar 1) (eC (.int 1))) rfl (.op2 (.var rfl) .c rfl) (by omega) (by omega)
  obtain ⟨w, a2, b2, c2, hl, hw, e2⟩ := draw_loop hp hc l0 (by omega) (most := .int most) (rng 0 r) a1 b1 c1
  have hlr : w.length = r := by rw [hl]; simp [rng]
  refine ⟨w, a2, b2, c2, by omega, hw, ?_⟩
  have ei : iRange rangeD1 (aCons (pullE mp (eOp2 dAdd (eVar 1) (eC (.int 1)))) aNil) [Bg a b c, .pu (.int most), .pu (.str s), .un, .un, .un, .un] = .ok (rng 0 r, [Bg a1 b1 c1, .pu (.int most), .pu (.str s), .un, .un, .un, .un]) :=
    Ir.range (.cons e .nil) (rng_of r (by omega))
  have ec : compL (iRange rangeD1 (aCons (pullE mp (eOp2 dAdd (eVar 1) (eC (.int 1)))) aNil)) (bName 6) tYesG (eCallD 2 [0] mc (aCons (eVar 0) (aCons (eVar 2) (aNil)))) [6] [Bg a b c, .pu (.int most), .pu (.str s), .un, .un, .un, .un] = .ok (.lst (w.map fun x => D.str [x]), [Bg a2 b2 c2, .pu (.int most), .pu (.str s), .un, .un, .un, .un]) := by
    unfold compL
    rw [ei, R.ok_bind]
    simp only
    rw [if_pos (by rw [sizeLine_eq]; simp [rng]; omega)]
    show (loopC (bName 6) tYesG _ [6] (rng 0 r) [Bg a1 b1 c1, .pu (.int most), .pu (.str s), .un, .un, .un, .un] >>= _) = _
    rw [e2]; rfl
  exact Nx.asgE (.met (a := .str []) rfl (.cons (.toE ec) .nil) rfl (join_word (by omega))) rfl
end
end DL
end
section
set_option Elab.async false
set_option linter.all false
set_option maxRecDepth 100000
namespace DL
open PySem
theorem dAdd_str {x y : List Nat} (h : x.length + y.length ≤ 16777216) : dAdd (.str x) (.str y) = some (.str (x ++ y)) := by
  show (if x.length + y.length ≤ sizeLine then some (D.str (x ++ y)) else none) = _
  rw [if_pos (by rw [sizeLine_eq]; exact h)]
theorem dMul_str {x : List Nat} {k : Nat} (h : k ≤ 1000) (h2 : x.length ≤ 1000) : dMul (.str x) (.int k) = some (.str (List.replicate k x).flatten) := by
  have h3 : x.length * k ≤ 1000000 := Nat.le_trans (Nat.mul_le_mul h2 h) (by decide)
  unfold dMul
  simp only [Int.toNat_natCast]
  rw [if_pos ⟨by omega, by omega, h3⟩]
theorem dEq_int {i j : Int} : dEq (.int i) (.int j) = some (.bl (i == j)) := rfl
theorem dNe_str {x y : List Nat} : dNe (.str x) (.str y) = some (.bl (!(x == y))) := rfl
theorem dEq_str {x y : List Nat} : dEq (.str x) (.str y) = some (.bl (x == y)) := rfl
theorem mem_reps {x : List Nat} : ∀ {k : Nat} {c : Nat}, c ∈ (List.replicate k x).flatten → c ∈ x
  | 0, c, h => by simp at h
  | k + 1, c, h => by
    rw [List.replicate_succ, List.flatten_cons] at h
    rcases List.mem_append.mp h with z | z
    · exact z
    · exact mem_reps z
theorem len_reps (x : List Nat) (k : Nat) : ((List.replicate k x).flatten).length = k * x.length := by
  simp
theorem InAbc.nil : InAbc [] := fun c h => by cases h
theorem InAbc.take {w : List Nat} (h : InAbc w) (k : Nat) : InAbc (w.take k) := h.fac (Fac.take w k)
theorem InAbc.drop {w : List Nat} (h : InAbc w) (k : Nat) : InAbc (w.drop k) := h.fac (Fac.drop w k)
theorem InAbc.reps {x : List Nat} (h : InAbc x) (k : Nat) : InAbc (List.replicate k x).flatten := fun c hc => h c (mem_reps hc)
theorem InAbc.one {c : Nat} (h : c ∈ abc) : InAbc [c] := fun d hd => by rw [List.mem_singleton.mp hd]; exact h
section
variable {mp mc : List Sl → R (D × List Sl)} (hp : PullOk mp) (hc : mc = mDef 2 0 (hChoose mp))
include hp hc
/-- a letter put otherwise -/
theorem other {γ : Ga} {a b c : Int} {w : List Nat} {at_ : Nat} {iw ia : Nat} (h0 : γ[0]? = some (Bg a b c)) (hw : γ[iw]? = some (.pu (.str w))) (ha : γ[ia]? = some (.pu (.int at_))) (nw : iw ≠ 0) (na : ia ≠ 0) (hl : w.length ≤ 1000) (hA : InAbc w) (lt : at_ < w.length) :
    ∃ (w' : List Nat) (a' b' c' : Int), w'.length = w.length ∧ InAbc w' ∧ Ef (eOp2 dAdd (eOp2 dAdd (eSl (eVar iw) oNone (oSome (eVar ia))) (eCallD 2 [0] mc (aCons (eVar 0) (aCons (eC (.str [97, 98, 99])) (aNil))))) (eSl (eVar iw) (oSome (eOp2 dAdd (eVar ia) (eC (.int 1)))) oNone)) γ (.str w') (γ.set 0 (Bg a' b' c')) := by
  obtain ⟨d, a', b', c', hd, e⟩ := choose_at hp hc (γ := γ) (a := a) (b := b) (c := c) (items := eC (.str [97, 98, 99])) (s := [97, 98, 99]) h0 rfl (by decide) (by decide)
  refine ⟨w.take at_ ++ [d] ++ w.drop (at_ + 1), a', b', c', ?_, ((hA.take _).app (InAbc.one hd)).app (hA.drop _), ?_⟩
  · simp; omega
  · have hw2 : (γ.set 0 (Bg a' b' c'))[iw]? = some (.pu (.str w)) := by rw [List.getElem?_set_ne (Ne.symm nw)]; exact hw
    have ha2 : (γ.set 0 (Bg a' b' c'))[ia]? = some (.pu (.int at_)) := by rw [List.getElem?_set_ne (Ne.symm na)]; exact ha
    refine .op2 (.op2 (.sl (Pv.var hw) .none (.some (Pv.var ha)) (dSl_j w at_)) e (dAdd_str (by simp; omega))) (.sl (Pv.var hw2) (.some (.op2 (Pv.var ha2) Pv.c (d := .int ((at_ + 1 : Nat) : Int)) rfl)) .none (dSl_i w (at_ + 1))) (dAdd_str (by simp; omega))
theorem w3 {most : Nat} (hm : most < 1000) {s w : List Nat} (hl : w.length ≤ most) (hA : InAbc w) {a b c : Int} : ∃ (w' : List Nat) (a' b' c' : Int) (z4 z5 : Sl), w'.length = w.length ∧ InAbc w' ∧
    (sIf (tAnd (toT (eOp2 dNe (eVar 3) (eC (.str [])))) (toT (eOp2 dEq (pullE mp (eC (.int 2))) (eC (.int 0))))) (sCons (wS4 mp) (sCons wS5 (sIf (toT (eOp2 dEq (pullE mp (eC (.int 3))) (eC (.int 0)))) (sCons (wS6 mp) (wS7 mc)) sNil))) sNil)
      [Bg a b c, .pu (.int most), .pu (.str s), .pu (.str w), .un, .un, .un] = .ok (.next, [Bg a' b' c', .pu (.int most), .pu (.str s), .pu (.str w'), z4, z5, .un]) := by
  cases w with
  | nil => exact ⟨[], a, b, c, .un, .un, rfl, .nil, (sIf_no (Eb.and_no (Eb.t (Ef.op2 (Pv.var rfl) Pv.c rfl)))).trans rfl⟩
  | cons x0 w0 =>
    obtain ⟨w, hw⟩ : ∃ w, w = x0 :: w0 := ⟨_, rfl⟩
    rw [← hw] at hl hA ⊢
    have hne : 0 < w.length := by rw [hw]; simp
    have e0 : Eb (toT (eOp2 dNe (eVar 3) (eC (.str [])))) [Bg a b c, .pu (.int most), .pu (.str s), .pu (.str w), .un, .un, .un] true [Bg a b c, .pu (.int most), .pu (.str s), .pu (.str w), .un, .un, .un] := Eb.t (Ef.op2 (Pv.var rfl) Pv.c (by rw [hw]; rfl))
    clear hw
    obtain ⟨r1, a1, b1, c1, _, e1⟩ := pull_at hp (γ := [Bg a b c, .pu (.int most), .pu (.str s), .pu (.str w), .un, .un, .un]) (t := 2) (ft := eC (.int 2)) rfl rfl (by decide) (by decide)
    by_cases h1 : r1 = 0
    · subst h1
      obtain ⟨r2, a2, b2, c2, hr2, e2⟩ := pull_at hp (γ := [Bg a1 b1 c1, .pu (.int most), .pu (.str s), .pu (.str w), .un, .un, .un]) (t := min 4 w.length) (ft := eCall dMin (aCons (eC (.int 4)) (aCons (eCall dLen (aCons (eVar 3) (aNil))) (aNil)))) rfl
        (.call (.cons Pv.c (.cons (.call (.cons (.var rfl) .nil) rfl) .nil)) (by
          show some (D.int (if (w.length : Int) < 4 then (w.length : Int) else 4)) = _
          congr 2
          split <;> omega)) (by omega) (by omega)
      -- the word by its beginning, again and again
      obtain ⟨w1, hw1⟩ : ∃ w1, w1 = ((List.replicate most (w.take (1 + r2))).flatten).take w.length := ⟨_, rfl⟩
      have l1 : w1.length = w.length := by
        rw [hw1, List.length_take, len_reps, List.length_take]
        have : most * 1 ≤ most * min (1 + r2) w.length := Nat.mul_le_mul_left _ (by omega)
        omega
      have A1 : InAbc w1 := by rw [hw1]; exact ((hA.take _).reps _).take _
      obtain ⟨r3, a3, b3, c3, _, e3⟩ := pull_at hp (γ := [Bg a2 b2 c2, .pu (.int most), .pu (.str s), .pu (.str w1), .pu (.int ((1 + r2 : Nat) : Int)), .un, .un]) (t := 3) (ft := eC (.int 3)) rfl rfl (by decide) (by decide)
      have s4 : Nx (wS4 mp) [Bg a1 b1 c1, .pu (.int most), .pu (.str s), .pu (.str w), .un, .un, .un] [Bg a2 b2 c2, .pu (.int most), .pu (.str s), .pu (.str w), .pu (.int ((1 + r2 : Nat) : Int)), .un, .un] :=
        Nx.asgE (.op2 (a := .int 1) rfl e2 (d := .int ((1 + r2 : Nat) : Int)) (by show some (D.int _) = _; congr 2)) rfl
      have s5 : Nx wS5 [Bg a2 b2 c2, .pu (.int most), .pu (.str s), .pu (.str w), .pu (.int ((1 + r2 : Nat) : Int)), .un, .un] [Bg a2 b2 c2, .pu (.int most), .pu (.str s), .pu (.str w1), .pu (.int ((1 + r2 : Nat) : Int)), .un, .un] := by
        rw [hw1]
        exact Nx.asgE (.sl (.op2 (.sl (Pv.var rfl) .none (.some (Pv.var rfl)) (dSl_j w (1 + r2))) (Pv.var rfl) (dMul_str (by omega) (by simp; omega))) .none (.some (Pv.call (.cons (.var rfl) .nil) (d := .int (w.length : Int)) rfl)) (dSl_j _ w.length)) rfl
      have hd : sIf (tAnd (toT (eOp2 dNe (eVar 3) (eC (.str [])))) (toT (eOp2 dEq (pullE mp (eC (.int 2))) (eC (.int 0))))) (sCons (wS4 mp) (sCons wS5 (sIf (toT (eOp2 dEq (pullE mp (eC (.int 3))) (eC (.int 0)))) (sCons (wS6 mp) (wS7 mc)) sNil))) sNil
        [Bg a b c, .pu (.int most), .pu (.str s), .pu (.str w), .un, .un, .un] = sIf (toT (eOp2 dEq (pullE mp (eC (.int 3))) (eC (.int 0)))) (sCons (wS6 mp) (wS7 mc)) sNil [Bg a2 b2 c2, .pu (.int most), .pu (.str s), .pu (.str w1), .pu (.int ((1 + r2 : Nat) : Int)), .un, .un] :=
        (sIf_yes (Eb.and_go e0 (Eb.t (Ef.op2 e1 Pv.c rfl)))).trans ((sCons_next s4).trans (sCons_next s5))
      by_cases h3 : r3 = 0
      · subst h3
        obtain ⟨r4, a4, b4, c4, hr4, e4⟩ := pull_at hp (γ := [Bg a3 b3 c3, .pu (.int most), .pu (.str s), .pu (.str w1), .pu (.int ((1 + r2 : Nat) : Int)), .un, .un]) (t := w1.length) (ft := eCall dLen (aCons (eVar 3) (aNil))) rfl (.call (.cons (.var rfl) .nil) rfl) (by omega) (by omega)
        obtain ⟨w2, a5, b5, c5, l2, A2, e5⟩ := other hp hc (γ := [Bg a4 b4 c4, .pu (.int most), .pu (.str s), .pu (.str w1), .pu (.int ((1 + r2 : Nat) : Int)), .pu (.int (r4 : Int)), .un]) (w := w1) (at_ := r4) (iw := 3) (ia := 5) rfl rfl rfl (by decide) (by decide) (by omega) A1 hr4
        refine ⟨w2, a5, b5, c5, _, _, by omega, A2, hd.trans ((sIf_yes (Eb.t (Ef.op2 e3 Pv.c rfl))).trans ((sCons_next (Nx.asgE e4 rfl)).trans (Nx.asgE e5 rfl)))⟩
      · refine ⟨w1, a3, b3, c3, _, _, l1, A1, hd.trans ((sIf_no (Eb.t (Ef.op2 e3 Pv.c (d := .bl false) ?_))).trans rfl)⟩
        show some (D.bl ((r3 : Int) == 0)) = _
        congr 2
        simp [h3]
    · refine ⟨w, a1, b1, c1, _, _, rfl, hA, (sIf_no (Eb.and_go e0 (Eb.t (Ef.op2 e1 Pv.c (d := .bl false) ?_)))).trans rfl⟩
      show some (D.bl ((r1 : Int) == 0)) = _
      congr 2
      simp [h1]
theorem word_ok {most : Nat} (hm : most < 1000) {a b c : Int} : ∃ (w : List Nat) (a' b' c' : Int), w.length ≤ most ∧ InAbc w ∧ mDef 2 5 (hWord mp mc) [Bg a b c, .pu (.int most)] = .ok (.str w, [Bg a' b' c', .pu (.int most)]) := by
  obtain ⟨k, a1, b1, c1, k1, k3, e1⟩ := w1 hp (most := most) (a := a) (b := b) (c := c)
  have lk : (abc.take k).length = k := by unfold abc; simp; omega
  obtain ⟨w, a2, b2, c2, l2, A2, e2⟩ := w2 hp hc hm (s := abc.take k) (by omega) (by omega) (a := a1) (b := b1) (c := c1)
  obtain ⟨w', a3, b3, c3, z4, z5, l3, A3, e3⟩ := w3 hp hc hm (s := abc.take k) l2 (fun x hx => List.mem_of_mem_take (A2 x hx)) (a := a2) (b := b2) (c := c2)
  refine ⟨w', a3, b3, c3, by omega, A3, ?_⟩
  rw [hWord_eq]
  exact mDef_ret (γ := [Bg a3 b3 c3, .pu (.int most), .pu (.str (abc.take k)), .pu (.str w'), z4, z5, .un]) (.seq e1 (.seq e2 (.seq e3 (.ret (.var rfl)))))
end
end DL
end
section
set_option Elab.async false
set_option linter.all false
set_option maxRecDepth 100000
namespace DL
open PySem
/-! ### the list of all factors of a word, as a law makes it -/
abbrev fcStore : Ga → R (Fl × Ga) := sStore 1 (eSl (eVar 0) (oSome (eVar 2)) (oSome (eVar 3))) (eC (.bl true))
abbrev fcIn : Ga → R (Fl × Ga) := sFor (iRange rangeD2 (aCons (eOp2 dAdd (eVar 2) (eC (.int 1))) (aCons (eOp2 dAdd (eCall dLen (aCons (eVar 0) (aNil))) (eC (.int 1))) (aNil)))) (bName 3) fcStore
abbrev hFactors : Ga → R (Fl × Ga) :=
  sCons (sNew 1 (fDisp (prCons (eC (.str [])) (eC (.bl true)) (prNil))))
  (sCons (sFor (iRange rangeD1 (aCons (eCall dLen (aCons (eVar 0) (aNil))) (aNil))) (bName 2) fcIn)
  (sRet (toE (fCall dSorted (aCons (eVar 1) (aNil))))))
abbrev gF (w : List Nat) (ts : List (List Nat)) (vs : List D) (x y : Sl) : Ga := [.pu (.str w), .mu (.dct false (ts.map .s) vs), x, y]
def putT (ts : List (List Nat)) (x : List Nat) : List (List Nat) := if x ∈ ts then ts else ts ++ [x]
theorem putT_keys (ts : List (List Nat)) (x : List Nat) : dPutK (ts.map .s) (.s x) = (putT ts x).map .s := by
  unfold dPutK putT
  by_cases h : x ∈ ts
  · rw [if_pos h, if_pos (List.mem_map.mpr ⟨x, h, rfl⟩)]
  · rw [if_neg h, if_neg (fun z => by
      obtain ⟨y, hy, e⟩ := List.mem_map.mp z
      cases e
      exact h hy)]
    simp
theorem putT_len (ts : List (List Nat)) (x : List Nat) : (putT ts x).length ≤ ts.length + 1 := by
  unfold putT; split <;> simp
theorem putT_mem (ts : List (List Nat)) (x : List Nat) : x ∈ putT ts x := by
  unfold putT; split
  · assumption
  · simp
theorem putT_sub {ts : List (List Nat)} {x y : List Nat} (h : y ∈ ts) : y ∈ putT ts x := by
  unfold putT; split
  · exact h
  · exact List.mem_append_left _ h
theorem putT_cases {ts : List (List Nat)} {x y : List Nat} (h : y ∈ putT ts x) : y ∈ ts ∨ y = x := by
  unfold putT at h; split at h
  · exact .inl h
  · rcases List.mem_append.mp h with h | h
    · exact .inl h
    · exact .inr (List.mem_singleton.mp h)
theorem fc_store (w : List Nat) (ts : List (List Nat)) (vs : List D) (i j : Nat) (h : ts.length < 1000) : ∃ vs', Nx fcStore (gF w ts vs (.pu (.int i)) (.pu (.int j))) (gF w (putT ts ((w.take j).drop i)) vs' (.pu (.int i)) (.pu (.int j))) := by
  refine ⟨dPutV (ts.map .s) vs (.s ((w.take j).drop i)) (.bl true), ?_⟩
  have e : Pv (eSl (eVar 0) (oSome (eVar 2)) (oSome (eVar 3))) (gF w ts vs (.pu (.int i)) (.pu (.int j))) (.str ((w.take j).drop i)) := Ef.sl (Pv.var rfl) (.some (Pv.var rfl)) (.some (Pv.var rfl)) (dSl_ij w i j)
  have e2 : dStore (.dct false (ts.map .s) vs) (.str ((w.take j).drop i)) (.bl true) = some (.dct false ((putT ts ((w.take j).drop i)).map .s) (dPutV (ts.map .s) vs (.s ((w.take j).drop i)) (.bl true))) := by
    unfold dStore
    show (if _ then _ else _) = _
    rw [if_pos ⟨rfl, by rw [List.length_map, sizeLine_eq]; omega⟩, putT_keys]
  show sStore _ _ _ _ = _
  unfold sStore
  rw [show eC (.bl true) (gF w ts vs (.pu (.int i)) (.pu (.int j))) = .ok (.val (.bl true), gF w ts vs (.pu (.int i)) (.pu (.int j))) from rfl, R.ok_bind]
  simp only [valOf, R.ok_bind]
  rw [show muAt (gF w ts vs (.pu (.int i)) (.pu (.int j))) 1 = .ok (.dct false (ts.map .s) vs) from rfl, R.ok_bind, e, R.ok_bind]
  simp only [deref, R.ok_bind]
  rw [show muAt (gF w ts vs (.pu (.int i)) (.pu (.int j))) 1 = .ok (.dct false (ts.map .s) vs) from rfl, R.ok_bind, e2]
  rfl
theorem fc_in (w : List Nat) (i : Nat) : ∀ (js : List Nat) (ts : List (List Nat)) (vs : List D) (z : Sl), ts.length + js.length < 1000 → (∀ x ∈ ts, Fac x w) → ∃ ts' vs' z', loopF (bName 3) fcStore (js.map fun j : Nat => D.int j) (gF w ts vs (.pu (.int i)) z) = .ok (.next, gF w ts' vs' (.pu (.int i)) z') ∧
    (∀ x ∈ ts, x ∈ ts') ∧ (∀ j ∈ js, (w.take j).drop i ∈ ts') ∧ (∀ x ∈ ts', Fac x w) ∧ ts'.length ≤ ts.length + js.length
  | [], ts, vs, z, _, hf => ⟨ts, vs, z, rfl, fun _ h => h, fun _ h => (by simp at h), hf, by simp⟩
  | j :: js, ts, vs, z, hl, hf => by
    rw [List.length_cons] at hl
    obtain ⟨vs1, e1⟩ := fc_store w ts vs i j (by omega)
    have pl := putT_len ts ((w.take j).drop i)
    obtain ⟨ts', vs', z', e2, s1, s2, s3, s4⟩ := fc_in w i js (putT ts ((w.take j).drop i)) vs1 (.pu (.int j)) (by omega) (fun x hx => by
      rcases putT_cases hx with h | h
      · exact hf x h
      · rw [h]; exact Fac.sl w i j)
    refine ⟨ts', vs', z', (loop_cons (γ1 := gF w ts vs (.pu (.int i)) (.pu (.int j))) rfl e1).trans e2, fun x hx => s1 x (putT_sub hx), fun k hk => ?_, s3, by rw [List.length_cons]; omega⟩
    rcases List.mem_cons.mp hk with rfl | hk
    · exact s1 _ (putT_mem _ _)
    · exact s2 k hk
theorem rng2_of (i n : Nat) (hn : n < 1000000) (hi : i ≤ n) : rangeD2 [.int ((i + 1 : Nat) : Int), .int ((n + 1 : Nat) : Int)] = some (((List.range (n - i)).map fun k => i + 1 + k).map fun j : Nat => D.int j) := by
  have h1 : okI ((i + 1 : Nat) : Int) = true := by unfold okI; simp only [Bool.and_eq_true, decide_eq_true_eq]; omega
  have h2 : okI ((n + 1 : Nat) : Int) = true := by unfold okI; simp only [Bool.and_eq_true, decide_eq_true_eq]; omega
  unfold rangeD2
  simp only [h1, h2, Bool.and_self, if_true]
  unfold rng
  rw [show (((n + 1 : Nat) : Int) - ((i + 1 : Nat) : Int)).toNat = n - i by omega, List.map_map]
  congr 1
theorem fc_out (w : List Nat) (hw : w.length < 20) : ∀ (is : List Nat) (ts : List (List Nat)) (vs : List D) (x z : Sl), (∀ i ∈ is, i ≤ w.length) → ts.length + (is.map fun i => w.length - i).sum < 1000 → (∀ x ∈ ts, Fac x w) → ∃ ts' vs' x' z', loopF (bName 2) fcIn (is.map fun i : Nat => D.int i) (gF w ts vs x z) = .ok (.next, gF w ts' vs' x' z') ∧
    (∀ x ∈ ts, x ∈ ts') ∧ (∀ i ∈ is, ∀ j, i < j → j ≤ w.length → (w.take j).drop i ∈ ts') ∧ (∀ x ∈ ts', Fac x w) ∧ ts'.length ≤ ts.length + (is.map fun i => w.length - i).sum
  | [], ts, vs, x, z, _, _, hf => ⟨ts, vs, x, z, rfl, fun _ h => h, fun _ h => (by simp at h), hf, by simp⟩
  | i :: is, ts, vs, x, z, hi, hl, hf => by
    rw [List.map_cons, List.sum_cons] at hl
    have hil := hi i List.mem_cons_self
    obtain ⟨ts1, vs1, z1, e1, a1, a2, a3, a4⟩ := fc_in w i ((List.range (w.length - i)).map fun k => i + 1 + k) ts vs z (by simp; omega) hf
    rw [List.length_map, List.length_range] at a4
    have er : iRange rangeD2 (aCons (eOp2 dAdd (eVar 2) (eC (.int 1))) (aCons (eOp2 dAdd (eCall dLen (aCons (eVar 0) (aNil))) (eC (.int 1))) (aNil))) (gF w ts vs (.pu (.int i)) z) = .ok (((List.range (w.length - i)).map fun k => i + 1 + k).map fun j : Nat => D.int j, gF w ts vs (.pu (.int i)) z) :=
      Ir.range (.cons (.op2 (Pv.var rfl) Pv.c (d := .int ((i + 1 : Nat) : Int)) rfl) (.cons (.op2 (Pv.call (.cons (.var rfl) .nil) (d := .int (w.length : Int)) rfl) Pv.c (d := .int ((w.length + 1 : Nat) : Int)) rfl) .nil)) (rng2_of i w.length (by omega) hil)
    obtain ⟨ts2, vs2, x2, z2, e2, b1, b2, b3, b4⟩ := fc_out w hw is ts1 vs1 (.pu (.int i)) z1 (fun k hk => hi k (List.mem_cons_of_mem _ hk)) (by omega) a3
    refine ⟨ts2, vs2, x2, z2, (loop_cons (γ1 := gF w ts vs (.pu (.int i)) z) rfl ((sFor_of er).trans e1)).trans e2, fun x hx => b1 x (a1 x hx), fun k hk j h1 h2 => ?_, b3, by rw [List.map_cons, List.sum_cons]; omega⟩
    rcases List.mem_cons.mp hk with rfl | hk
    · refine b1 _ (a2 j (List.mem_map.mpr ⟨j - (k + 1), List.mem_range.mpr (by omega), by omega⟩))
    · exact b2 k hk j h1 h2
theorem rng_nat (n : Nat) : rng 0 n = (List.range n).map fun i : Nat => D.int i := by
  unfold rng; simp
theorem Fac.len {x w : List Nat} (h : Fac x w) : x.length ≤ w.length := by
  obtain ⟨a, b, rfl⟩ := h
  simp; omega
theorem kTxts_s : ∀ (ts : List (List Nat)), (∀ t ∈ ts, t.length ≤ 1000) → kTxts (ts.map .s) = some ts
  | [], _ => rfl
  | t :: ts, h => by
    have := kTxts_s ts fun x hx => h x (List.mem_cons_of_mem _ hx)
    have ht := h t List.mem_cons_self
    have ho : okS t = true := by exact Nat.ble_eq.mpr (by omega)
    simp only [List.map_cons]
    unfold kTxts
    rw [this, if_pos ho]
theorem few : ∀ n, n < 11 → ((List.range n).map fun i => n - i).sum ≤ 55 := by decide
/-- all factors -/
theorem factors_ok (w : List Nat) (hw : w.length ≤ 10) : ∃ fs : List (List Nat), (∀ x, x ∈ fs ↔ Fac x w) ∧ fs.length < 64 ∧ mDef 1 3 hFactors [.pu (.str w)] = .ok (.lst (fs.map .str), [.pu (.str w)]) := by
  have hfew := few w.length (by omega)
  obtain ⟨ts, vs, x, z, e, a1, a2, a3, a4⟩ := fc_out w (by omega) (List.range w.length) [[]] [.bl true] .un .un (fun i hi => Nat.le_of_lt (List.mem_range.mp hi)) (by simp only [List.length_cons, List.length_nil]; omega) (fun x hx => by rw [List.mem_singleton.mp hx]; exact Fac.nil w)
  simp only [List.length_cons, List.length_nil] at a4
  have hp : (srtT ts).Perm ts := srtT_perm ts
  refine ⟨srtT ts, fun x => ?_, by rw [hp.length_eq]; omega, ?_⟩
  · rw [hp.mem_iff]
    refine ⟨a3 x, fun h => ?_⟩
    by_cases hx : x = []
    · rw [hx]; exact a1 [] (by simp)
    · obtain ⟨i, h1, h2⟩ := fac_iff.mp h
      have hl : 0 < x.length := List.length_pos_iff.mpr hx
      rw [← h2]
      exact a2 i (List.mem_range.mpr (by omega)) _ (by omega) h1
  · have e0 : Nx (sNew 1 (fDisp (prCons (eC (.str [])) (eC (.bl true)) (prNil)))) [.pu (.str w), .un, .un, .un] (gF w [[]] [.bl true] .un .un) := rfl
    have er : iRange rangeD1 (aCons (eCall dLen (aCons (eVar 0) (aNil))) (aNil)) (gF w [[]] [.bl true] .un .un) = .ok ((List.range w.length).map fun i : Nat => D.int i, gF w [[]] [.bl true] .un .un) :=
      Ir.range (.cons (Pv.call (.cons (.var rfl) .nil) (d := .int (w.length : Int)) rfl) .nil) (by rw [rng_of _ (by omega), rng_nat])
    have es : dSorted [.dct false (ts.map .s) vs] = some (.lst ((srtT ts).map .str)) := by
      show (match kTxts (ts.map .s) with | some ns => if ns.length < 64 then some (D.lst ((srtT ns).map .str)) else none | none => none) = _
      rw [show kTxts (ts.map .s) = some ts from kTxts_s ts fun t ht => by have := (a3 t ht).len; omega]
      show (if ts.length < 64 then some (D.lst ((srtT ts).map .str)) else none) = _
      rw [if_pos (by omega)]
    exact mDef_ret (γ := gF w ts vs x z) (.seq e0 (.seq ((sFor_of er).trans e) (.ret (.toE (fr_call (.cons (.mu rfl) .nil) es)))))
end DL
end
section
set_option Elab.async false
set_option linter.all false
set_option maxRecDepth 100000
set_option maxHeartbeats 4000000
namespace DL
namespace K89
open PySem L2 Evl PySem.Spec PyProof.Rows LamX
noncomputable section
def hF__law_bag : Ga → R (D × Ga) :=
  fCons (sAsg (eIf (toT (eOp2 dLt (eVar 1) (eCall dLen (aCons (eVar 0) (aNil))))) (eCall dInt1 (aCons (eOp2 dIx (eVar 0) (eVar 1)) (aNil))) (eOp2 dAdd (eOp2 dMul (eC (.int 887)) (eVar 1)) (eC (.int 89)))) (bName 2))
  (fCons (sAsg (eOp2 dMod (eCall dInt1 (aCons (eCall dAbs (aCons (eVar 2) (aNil))) (aNil))) (eOp2 dPow (eOp2 dPow (eC (.int 10)) (eC (.int 39))) (eC (.int 8)))) (bName 3))
  (fCons (sAsg (eOp2 dAdd (eOp2 dAdd (eOp2 dAdd (eOp2 dMul (eOp2 dMod (eVar 3) (eC (.int 2305843009213693951))) (eC (.int 163))) (eOp2 dMul (eC (.int 607)) (eVar 1))) (eOp2 dMul (eC (.int 109)) (eCall dInt1 (aCons (eOp2 dLt (eVar 2) (eC (.int 0))) (aNil))))) (eC (.int 71))) (bName 4))
  (fLst (aCons (eCall dMax (aCons (eC (.int 0)) (aCons (eOp2 dSub (eVar 3) (eOp2 dPow (eC (.int 10)) (eC (.int 16)))) (aNil)))) (aCons (eVar 4) (aCons (eC (.int 0)) (aNil)))))))
def mF__law_bag : List Sl → R (D × List Sl) := mDefF 2 3 hF__law_bag
def h_is_text_of : Ga → R (Fl × Ga) :=
  sCons (sIf (tOr (tNot (toTr (eIsa .str (eVar 0)))) (tNot (toT (eChain (eVar 1) (chN dLe (eCall dLen (aCons (eVar 0) (aNil))) (chL dLe (eVar 2))))))) (sRet (eC (.bl false))) (sNil))
  (sRet (eCall dAll (aCons (toE (compL (iAnyV (eVar 0)) (bName 3) (tYesG) (eOp2 dMem (eVar 3) (eC (.str [97, 98, 99, 100, 101, 102, 103, 104, 105, 106, 107, 108, 109, 110, 111, 112, 113, 114, 115, 116, 117, 118, 119, 120, 121, 122]))) [3])) (aNil))))
def m_is_text_of : List Sl → R (D × List Sl) := mDef 3 1 h_is_text_of
def h_need_here : Ga → R (Fl × Ga) :=
  sIf (tNot (toTr (eCallD 3 [] m_is_text_of (aCons (eVar 0) (aCons (eC (.int 0)) (aCons (eC (.int 24)) (aNil))))))) (sRaise "NoWord") (sNil)
def m_need_here : List Sl → R (D × List Sl) := mDef 1 0 h_need_here
def h_is_whole : Ga → R (Fl × Ga) :=
  sRet (eAnd (eIsa .int (eVar 0)) (eNot (eIsa .bool (eVar 0))))
def m_is_whole : List Sl → R (D × List Sl) := mDef 1 0 h_is_whole
def h_need_many : Ga → R (Fl × Ga) :=
  sIf (tOr (tNot (toTr (eCallD 1 [] m_is_whole (aCons (eVar 0) (aNil))))) (tNot (toT (eChain (eC (.int 1)) (chN dLe (eVar 0) (chL dLe (eC (.int 26)))))))) (sRaise "NoNumber") (sNil)
def m_need_many : List Sl → R (D × List Sl) := mDef 1 0 h_need_many
def h_are_within : Ga → R (Fl × Ga) :=
  sRet (eCall dAll (aCons (toE (compL (iAnyV (eVar 0)) (bName 2) (tYesG) (eOp2 dMem (eVar 2) (eSl (eC (.str [97, 98, 99, 100, 101, 102, 103, 104, 105, 106, 107, 108, 109, 110, 111, 112, 113, 114, 115, 116, 117, 118, 119, 120, 121, 122])) oNone (oSome (eVar 1)))) [2])) (aNil)))
def m_are_within : List Sl → R (D × List Sl) := mDef 2 1 h_are_within
def h_need_word_many : Ga → R (Fl × Ga) :=
  sCons (sExpr (eCallD 1 [] m_need_here (aCons (eVar 0) (aNil))))
  (sCons (sExpr (eCallD 1 [] m_need_many (aCons (eVar 1) (aNil))))
  (sIf (tNot (toTr (eCallD 2 [] m_are_within (aCons (eVar 0) (aCons (eVar 1) (aNil)))))) (sRaise "NoLetter") (sNil)))
def m_need_word_many : List Sl → R (D × List Sl) := mDef 2 0 h_need_word_many
def h_need_part : Ga → R (Fl × Ga) :=
  sIf (tNot (toTr (eCallD 3 [] m_is_text_of (aCons (eVar 0) (aCons (eC (.int 0)) (aCons (eC (.int 40)) (aNil))))))) (sRaise "NoWord") (sNil)
def m_need_part : List Sl → R (D × List Sl) := mDef 1 0 h_need_part
def h_need_all : Ga → R (Fl × Ga) :=
  sCons (sExpr (eCallD 2 [] m_need_word_many (aCons (eVar 0) (aCons (eVar 1) (aNil)))))
  (sCons (sExpr (eCallD 1 [] m_need_part (aCons (eVar 2) (aNil))))
  (sIf (tNot (toTr (eCallD 2 [] m_are_within (aCons (eVar 2) (aCons (eVar 1) (aNil)))))) (sRaise "NoLetter") (sNil)))
def m_need_all : List Sl → R (D × List Sl) := mDef 3 0 h_need_all
def h_place_of : Ga → R (Fl × Ga) :=
  sCons (sAsg (toE (compL (iRange rangeD1 (aCons (eOp2 dAdd (eOp2 dSub (eCall dLen (aCons (eVar 0) (aNil))) (eCall dLen (aCons (eVar 1) (aNil)))) (eC (.int 1))) (aNil))) (bName 3) (toT (eOp2 dEq (eSl (eVar 0) (oSome (eVar 3)) (oSome (eOp2 dAdd (eVar 3) (eCall dLen (aCons (eVar 1) (aNil)))))) (eVar 1))) (eVar 3) [3])) (bName 2))
  (sRet (eIf (toT (eOp2 dNe (eVar 2) (toE (fLst (aNil))))) (eOp2 dIx (eVar 2) (eC (.int 0))) (eC .non)))
def m_place_of : List Sl → R (D × List Sl) := mDef 2 2 h_place_of
def h_least_within : Ga → R (Fl × Ga) :=
  sCons (sAsg (eOp2 dIx (toE (compL (iRange rangeD1 (aCons (eOp2 dAdd (eCall dLen (aCons (eVar 1) (aNil))) (eC (.int 1))) (aNil))) (bName 4) (toT (eOp2 dNotMem (eSl (eVar 1) oNone (oSome (eVar 4))) (eVar 0))) (eVar 4) [4])) (eC (.int 0))) (bName 2))
  (sCons (sAsg (eOp2 dIx (toE (compL (iRange rangeD1 (aCons (eVar 2) (aNil))) (bName 4) (toT (eOp2 dNotMem (eSl (eVar 1) (oSome (eVar 4)) (oSome (eVar 2))) (eVar 0))) (eVar 4) [4])) (eOp1 dNeg (eC (.int 1)))) (bName 3))
  (sRet (eTup (aCons (eVar 3) (aCons (eVar 2) (aNil))))))
def m_least_within : List Sl → R (D × List Sl) := mDef 2 3 h_least_within
def h_presence_paper : Ga → R (Fl × Ga) :=
  sCons (sExpr (eCallD 3 [] m_need_all (aCons (eVar 0) (aCons (eVar 1) (aCons (eVar 2) (aNil))))))
  (sCons (sAsg (eCallD 2 [] m_place_of (aCons (eVar 0) (aCons (eVar 2) (aNil)))) (bName 3))
  (sCons (sIf (toT (eOp2 dIsNot (eVar 3) (eC .non))) (sRet (eTup (aCons (eC (.str [97, 116])) (aCons (eVar 3) (aNil))))) (sNil))
  (sCons (sAsg (eCallD 2 [] m_least_within (aCons (eVar 0) (aCons (eVar 2) (aNil)))) (bTup 2 (bCons (bName 4) (bCons (bName 5) (bNil)))))
  (sRet (eTup (aCons (eC (.str [97, 98, 115, 101, 110, 116])) (aCons (eVar 4) (aCons (eVar 5) (aNil)))))))))
def m_presence_paper : List Sl → R (D × List Sl) := mDef 3 3 h_presence_paper
def h_is_least_absent : Ga → R (Fl × Ga) :=
  sRet (eAnd (eOp2 dNotMem (eVar 1) (eVar 0)) (eAnd (eOp2 dMem (eSl (eVar 1) (oSome (eC (.int 1))) oNone) (eVar 0)) (eOp2 dMem (eSl (eVar 1) oNone (oSome (eOp1 dNeg (eC (.int 1))))) (eVar 0))))
def m_is_least_absent : List Sl → R (D × List Sl) := mDef 2 0 h_is_least_absent
def h_shows_place : Ga → R (Fl × Ga) :=
  sRet (eAnd (eCallD 1 [] m_is_whole (aCons (eVar 2) (aNil))) (eAnd (eChain (eC (.int 0)) (chN dLe (eVar 2) (chL dLe (eOp2 dSub (eCall dLen (aCons (eVar 0) (aNil))) (eCall dLen (aCons (eVar 1) (aNil))))))) (eOp2 dEq (eSl (eVar 0) (oSome (eVar 2)) (oSome (eOp2 dAdd (eVar 2) (eCall dLen (aCons (eVar 1) (aNil)))))) (eVar 1))))
def m_shows_place : List Sl → R (D × List Sl) := mDef 3 0 h_shows_place
def h_is_presence_paper : Ga → R (Fl × Ga) :=
  sCons (sExpr (eCallD 3 [] m_need_all (aCons (eVar 0) (aCons (eVar 1) (aCons (eVar 2) (aNil))))))
  (sCons (sIf (tOr (tNot (toTr (eIsa .tuple (eVar 3)))) (tOr (tNot (toT (eChain (eC (.int 2)) (chN dLe (eCall dLen (aCons (eVar 3) (aNil))) (chL dLe (eC (.int 3))))))) (tNot (toTr (eIsa .str (eOp2 dIx (eVar 3) (eC (.int 0)))))))) (sRet (eC (.bl false))) (sNil))
  (sCons (sIf (toT (eOp2 dEq (eOp2 dIx (eVar 3) (eC (.int 0))) (eC (.str [97, 116])))) (sRet (eAnd (eOp2 dEq (eCall dLen (aCons (eVar 3) (aNil))) (eC (.int 2))) (eCallD 3 [] m_shows_place (aCons (eVar 0) (aCons (eVar 2) (aCons (eOp2 dIx (eVar 3) (eC (.int 1))) (aNil))))))) (sNil))
  (sCons (sIf (tOr (toT (eOp2 dNe (eOp2 dIx (eVar 3) (eC (.int 0))) (eC (.str [97, 98, 115, 101, 110, 116])))) (tOr (toT (eOp2 dNe (eCall dLen (aCons (eVar 3) (aNil))) (eC (.int 3)))) (tNot (toTr (eCall dAll (aCons (toE (compL (iAnyV (eSl (eVar 3) (oSome (eC (.int 1))) oNone)) (bName 6) (tYesG) (eCallD 1 [] m_is_whole (aCons (eVar 6) (aNil))) [6])) (aNil))))))) (sRet (eC (.bl false))) (sNil))
  (sCons (sAsg (eSl (eVar 3) (oSome (eC (.int 1))) oNone) (bTup 2 (bCons (bName 4) (bCons (bName 5) (bNil)))))
  (sRet (eAnd (eChain (eC (.int 0)) (chN dLe (eVar 4) (chN dLt (eVar 5) (chL dLe (eCall dLen (aCons (eVar 2) (aNil))))))) (eCallD 2 [] m_is_least_absent (aCons (eVar 0) (aCons (eSl (eVar 2) (oSome (eVar 4)) (oSome (eVar 5))) (aNil))))))))))
def m_is_presence_paper : List Sl → R (D × List Sl) := mDef 4 3 h_is_presence_paper
def h__law_pull : Ga → R (Fl × Ga) :=
  sCons (sIf (toT (eOp2 dGt (eOp2 dIx (eVar 0) (eC (.int 0))) (eC (.int 0)))) (sCons (sAsg (eOp2 dMod (eCall dInt1 (aCons (eOp2 dIx (eVar 0) (eC (.int 0))) (aNil))) (eVar 1)) (bName 2))
  (sCons (sStore 0 (eC (.int 0)) (eOp2 dFdiv (eOp2 dIx (eVar 0) (eC (.int 0))) (eVar 1)))
  (sRet (eVar 2)))) (sNil))
  (sCons (sStore 0 (eC (.int 2)) (eOp2 dAdd (eOp2 dIx (eVar 0) (eC (.int 2))) (eC (.int 1))))
  (sCons (sAsg (eOp2 dMod (eCall dInt1 (aCons (eOp2 dAdd (eOp2 dIx (eVar 0) (eC (.int 1))) (eOp2 dMul (eC (.int 10001701)) (eOp2 dIx (eVar 0) (eC (.int 2))))) (aNil))) (eC (.int 2305843009213693951))) (bName 3))
  (sCons (sAsg (eOp2 dAdd (eOp2 dMul (eOp2 dMod (eCall dInt1 (aCons (eOp2 dAdd (eOp2 dMul (eVar 3) (eVar 3)) (eOp2 dMul (eC (.int 733)) (eOp2 dIx (eVar 0) (eC (.int 2))))) (aNil))) (eC (.int 2305843009213693951))) (eC (.int 8589934609))) (eVar 3)) (bName 4))
  (sRet (eOp2 dMod (eCall dInt1 (aCons (eOp2 dFdiv (eVar 4) (eC (.int 131072))) (aNil))) (eVar 1))))))
def m__law_pull : List Sl → R (D × List Sl) := mDef 2 3 h__law_pull
def h__law_choose : Ga → R (Fl × Ga) :=
  sRet (eOp2 dIx (eVar 1) (eCallD 2 [0] m__law_pull (aCons (eVar 0) (aCons (eCall dLen (aCons (eVar 1) (aNil))) (aNil)))))
def m__law_choose : List Sl → R (D × List Sl) := mDef 2 0 h__law_choose
def h__law_drawn_word : Ga → R (Fl × Ga) :=
  sCons (sAsg (eSl (eC (.str [97, 98, 99])) oNone (oSome (eOp2 dAdd (eC (.int 1)) (eCallD 2 [0] m__law_pull (aCons (eVar 0) (aCons (eC (.int 3)) (aNil))))))) (bName 2))
  (sCons (sAsg (eMet "str" dJoin (eC (.str [])) (aCons (toE (compL (iRange rangeD1 (aCons (eCallD 2 [0] m__law_pull (aCons (eVar 0) (aCons (eOp2 dAdd (eVar 1) (eC (.int 1))) (aNil)))) (aNil))) (bName 6) (tYesG) (eCallD 2 [0] m__law_choose (aCons (eVar 0) (aCons (eVar 2) (aNil)))) [6])) aNil)) (bName 3))
  (sCons (sIf (tAnd (toT (eOp2 dNe (eVar 3) (eC (.str [])))) (toT (eOp2 dEq (eCallD 2 [0] m__law_pull (aCons (eVar 0) (aCons (eC (.int 2)) (aNil)))) (eC (.int 0))))) (sCons (sAsg (eOp2 dAdd (eC (.int 1)) (eCallD 2 [0] m__law_pull (aCons (eVar 0) (aCons (eCall dMin (aCons (eC (.int 4)) (aCons (eCall dLen (aCons (eVar 3) (aNil))) (aNil)))) (aNil))))) (bName 4))
  (sCons (sAsg (eSl (eOp2 dMul (eSl (eVar 3) oNone (oSome (eVar 4))) (eVar 1)) oNone (oSome (eCall dLen (aCons (eVar 3) (aNil))))) (bName 3))
  (sIf (toT (eOp2 dEq (eCallD 2 [0] m__law_pull (aCons (eVar 0) (aCons (eC (.int 3)) (aNil)))) (eC (.int 0)))) (sCons (sAsg (eCallD 2 [0] m__law_pull (aCons (eVar 0) (aCons (eCall dLen (aCons (eVar 3) (aNil))) (aNil)))) (bName 5))
  (sAsg (eOp2 dAdd (eOp2 dAdd (eSl (eVar 3) oNone (oSome (eVar 5))) (eCallD 2 [0] m__law_choose (aCons (eVar 0) (aCons (eC (.str [97, 98, 99])) (aNil))))) (eSl (eVar 3) (oSome (eOp2 dAdd (eVar 5) (eC (.int 1)))) oNone)) (bName 3))) (sNil)))) (sNil))
  (sRet (eVar 3))))
def m__law_drawn_word : List Sl → R (D × List Sl) := mDef 2 5 h__law_drawn_word
def h__law_part : Ga → R (Fl × Ga) :=
  sCons (sAsg (eCallD 2 [0] m__law_pull (aCons (eVar 0) (aCons (eC (.int 3)) (aNil)))) (bName 2))
  (sCons (sIf (tOr (toT (eOp2 dEq (eVar 2) (eC (.int 0)))) (toT (eOp2 dEq (eVar 1) (eC (.str []))))) (sRet (eCallD 2 [0] m__law_drawn_word (aCons (eVar 0) (aCons (eC (.int 6)) (aNil))))) (sNil))
  (sCons (sAsg (eCallD 2 [0] m__law_pull (aCons (eVar 0) (aCons (eOp2 dAdd (eCall dLen (aCons (eVar 1) (aNil))) (eC (.int 1))) (aNil)))) (bName 3))
  (sCons (sAsg (eSl (eVar 1) (oSome (eVar 3)) (oSome (eOp2 dAdd (eVar 3) (eCallD 2 [0] m__law_pull (aCons (eVar 0) (aCons (eC (.int 6)) (aNil))))))) (bName 4))
  (sCons (sIf (tAnd (toT (eOp2 dEq (eVar 2) (eC (.int 1)))) (toT (eOp2 dNe (eVar 4) (eC (.str []))))) (sCons (sAsg (eCallD 2 [0] m__law_pull (aCons (eVar 0) (aCons (eCall dLen (aCons (eVar 4) (aNil))) (aNil)))) (bName 5))
  (sAsg (eOp2 dAdd (eOp2 dAdd (eSl (eVar 4) oNone (oSome (eVar 5))) (eCallD 2 [0] m__law_choose (aCons (eVar 0) (aCons (eC (.str [97, 98, 99])) (aNil))))) (eSl (eVar 4) (oSome (eOp2 dAdd (eVar 5) (eC (.int 1)))) oNone)) (bName 4))) (sNil))
  (sRet (eVar 4))))))
def m__law_part : List Sl → R (D × List Sl) := mDef 2 4 h__law_part
def h__law_factors : Ga → R (Fl × Ga) :=
  sCons (sNew 1 (fDisp (prCons (eC (.str [])) (eC (.bl true)) (prNil))))
  (sCons (sFor (iRange rangeD1 (aCons (eCall dLen (aCons (eVar 0) (aNil))) (aNil))) (bName 2) (sFor (iRange rangeD2 (aCons (eOp2 dAdd (eVar 2) (eC (.int 1))) (aCons (eOp2 dAdd (eCall dLen (aCons (eVar 0) (aNil))) (eC (.int 1))) (aNil)))) (bName 3) (sStore 1 (eSl (eVar 0) (oSome (eVar 2)) (oSome (eVar 3))) (eC (.bl true)))))
  (sRet (toE (fCall dSorted (aCons (eVar 1) (aNil))))))
def m__law_factors : List Sl → R (D × List Sl) := mDef 1 3 h__law_factors
def h__law_is_whole : Ga → R (Fl × Ga) :=
  sRet (eAnd (eIsa .int (eVar 0)) (eNot (eIsa .bool (eVar 0))))
def m__law_is_whole : List Sl → R (D × List Sl) := mDef 1 0 h__law_is_whole
def h__law_kinds : Ga → R (Fl × Ga) :=
  sCons (sAsg (eCallD 1 [] m__law_factors (aCons (eVar 0) (aNil))) (bName 3))
  (sCons (sIf (tOr (tNot (toTr (eIsa .tuple (eVar 2)))) (tOr (tNot (toT (eChain (eC (.int 2)) (chN dLe (eCall dLen (aCons (eVar 2) (aNil))) (chL dLe (eC (.int 3))))))) (tNot (toTr (eIsa .str (eOp2 dIx (eVar 2) (eC (.int 0)))))))) (sRet (toE (fLst (aCons (eC (.bl false)) (aCons (eC (.bl false)) (aNil)))))) (sNil))
  (sCons (sIf (toT (eOp2 dNe (toE (compL (iAnyV (eSl (eVar 2) (oSome (eC (.int 1))) oNone)) (bName 5) (tOr (tNot (toTr (eCallD 1 [] m__law_is_whole (aCons (eVar 5) (aNil))))) (toT (eOp2 dLt (eVar 5) (eC (.int 0))))) (eC (.int 1)) [5])) (toE (fLst (aNil))))) (sRet (toE (fLst (aCons (eC (.bl false)) (aCons (eC (.bl false)) (aNil)))))) (sNil))
  (sCons (sIf (toT (eOp2 dEq (eOp2 dIx (eVar 2) (eC (.int 0))) (eC (.str [97, 116])))) (sRet (toE (fLst (aCons (eAnd (eOp2 dEq (eCall dLen (aCons (eVar 2) (aNil))) (eC (.int 2))) (eAnd (eOp2 dLe (eOp2 dAdd (eOp2 dIx (eVar 2) (eC (.int 1))) (eCall dLen (aCons (eVar 1) (aNil)))) (eCall dLen (aCons (eVar 0) (aNil)))) (eOp2 dEq (eSl (eVar 0) (oSome (eOp2 dIx (eVar 2) (eC (.int 1)))) (oSome (eOp2 dAdd (eOp2 dIx (eVar 2) (eC (.int 1))) (eCall dLen (aCons (eVar 1) (aNil)))))) (eVar 1)))) (aCons (eC (.bl false)) (aNil)))))) (sNil))
  (sCons (sIf (tOr (toT (eOp2 dNe (eOp2 dIx (eVar 2) (eC (.int 0))) (eC (.str [97, 98, 115, 101, 110, 116])))) (tOr (toT (eOp2 dNe (eCall dLen (aCons (eVar 2) (aNil))) (eC (.int 3)))) (tNot (toT (eChain (eOp2 dIx (eVar 2) (eC (.int 1))) (chN dLt (eOp2 dIx (eVar 2) (eC (.int 2))) (chL dLe (eCall dLen (aCons (eVar 1) (aNil)))))))))) (sRet (toE (fLst (aCons (eC (.bl false)) (aCons (eC (.bl false)) (aNil)))))) (sNil))
  (sCons (sAsg (eSl (eVar 1) (oSome (eOp2 dIx (eVar 2) (eC (.int 1)))) (oSome (eOp2 dIx (eVar 2) (eC (.int 2))))) (bName 4))
  (sRet (toE (fLst (aCons (eC (.bl false)) (aCons (eAnd (eOp2 dNotMem (eVar 4) (eVar 3)) (eAnd (eOp2 dMem (eSl (eVar 4) (oSome (eC (.int 1))) oNone) (eVar 3)) (eOp2 dMem (eSl (eVar 4) oNone (oSome (eOp1 dNeg (eC (.int 1))))) (eVar 3)))) (aNil)))))))))))
def m__law_kinds : List Sl → R (D × List Sl) := mDef 3 3 h__law_kinds
def h__law_right : Ga → R (Fl × Ga) :=
  sCons (sAsg (eCallD 2 [0] m__law_drawn_word (aCons (eVar 0) (aCons (eC (.int 10)) (aNil)))) (bName 1))
  (sCons (sAsg (eCallD 2 [0] m__law_part (aCons (eVar 0) (aCons (eVar 1) (aNil)))) (bName 2))
  (sCons (sPar2 3 4 (pVal (eOp2 dMem (eVar 2) (eCallD 1 [] m__law_factors (aCons (eVar 1) (aNil)))) (pVal (eCallD 3 [] m_presence_paper (aCons (eVar 1) (aCons (eC (.int 3)) (aCons (eVar 2) (aNil))))) (pNil))))
  (sCons (sIf (toT (eOp2 dNe (eCallD 3 [] m__law_kinds (aCons (eVar 1) (aCons (eVar 2) (aCons (eVar 4) (aNil))))) (toE (fLst (aCons (eVar 3) (aCons (eNot (eVar 3)) (aNil))))))) (sRet (eC (.bl false))) (sNil))
  (sCons (sNew 5 (fLst (aCons (eVar 4) (aCons (toE (fCall dList (aCons (eVar 4) (aNil)))) (aCons (eSl (eVar 4) oNone (oSome (eC (.int 1)))) (aCons (eOp2 dAdd (eVar 4) (eTup (aCons (eC (.int 0)) (aNil)))) (aCons (eOp1 dRev (eVar 4)) (aCons (eC .non) (aCons (eTup (aNil)) (aCons (eC (.int 0)) (aCons (eC (.str [97, 116])) (aCons (toE (fDNewK)) (aCons (eTup (aCons (eC (.str [97, 116])) (aCons (eC .non) (aNil)))) (aCons (eTup (aCons (eC (.str [97, 116])) (aCons (eC (.bl true)) (aNil)))) (aCons (eTup (aCons (eC (.str [97, 98, 115, 101, 110, 116])) (aCons (eC (.int 0)) (aNil)))) (aCons (eTup (aCons (eC (.str [97, 98, 115, 101, 110, 116])) (aCons (eC .non) (aCons (eC (.int 1)) (aNil))))) (aCons (eTup (aCons (eC (.str [97, 98, 115, 101, 110, 116])) (aCons (eC (.int 0)) (aCons (eC (.bl true)) (aNil))))) (aCons (eTup (aCons (eC (.str [97, 116])) (aCons (eCall dLen (aCons (eVar 1) (aNil))) (aNil)))) (aCons (eTup (aCons (eC (.str [97, 116])) (aCons (eC (.int 0)) (aCons (eC (.int 0)) (aNil))))) (aNil))))))))))))))))))))
  (sCons (sNew 5 (fOp2 dAddL (eVar 5) (toE (compL (iRange rangeD2 (aCons (eOp1 dNeg (eC (.int 1))) (aCons (eOp2 dAdd (eCall dLen (aCons (eVar 1) (aNil))) (eC (.int 2))) (aNil)))) (bName 9) (tYesG) (eTup (aCons (eC (.str [97, 116])) (aCons (eVar 9) (aNil)))) [9]))))
  (sCons (sFor (iRange rangeD1 (aCons (eOp2 dAdd (eCall dLen (aCons (eVar 2) (aNil))) (eC (.int 1))) (aNil))) (bName 6) (sExpr (eMutV "list" 5 mExtend (aCons (toE (compL (iRange rangeD1 (aCons (eOp2 dAdd (eCall dLen (aCons (eVar 2) (aNil))) (eC (.int 2))) (aNil))) (bName 10) (tYesG) (eTup (aCons (eC (.str [97, 98, 115, 101, 110, 116])) (aCons (eVar 6) (aCons (eVar 10) (aNil))))) [10])) (aNil)))))
  (sCons (sFor (iAnyV (eFz 5)) (bName 7) (sCons (sAsg (eCallD 3 [] m__law_kinds (aCons (eVar 1) (aCons (eVar 2) (aCons (eVar 7) (aNil))))) (bName 8))
  (sIf (tOr (toT (eOp2 dNe (eCall dRepr (aCons (eCallD 4 [] m_is_presence_paper (aCons (eVar 1) (aCons (eC (.int 3)) (aCons (eVar 2) (aCons (eVar 7) (aNil)))))) (aNil))) (eCall dRepr (aCons (eOp2 dMem (eC (.bl true)) (eVar 8)) (aNil))))) (toT (eOp2 dEq (eVar 8) (toE (fLst (aCons (eNot (eVar 3)) (aCons (eVar 3) (aNil)))))))) (sRet (eC (.bl false))) (sNil))))
  (sRet (eC (.bl true))))))))))
def m__law_right : List Sl → R (D × List Sl) := mDef 1 10 h__law_right
def h_law : Ga → R (Fl × Ga) :=
  sCons (sFor (iRange rangeD1 (aCons (eCall dMax (aCons (eC (.int 1)) (aCons (eCall dMin (aCons (eC (.int 3)) (aCons (eCall dLen (aCons (eVar 0) (aNil))) (aNil)))) (aNil)))) (aNil))) (bName 1) (sCons (sNew 2 (fCallD 2 mF__law_bag (aCons (eVar 0) (aCons (eVar 1) (aNil)))))
  (sFor (iRange rangeD1 (aCons (eC (.int 4)) (aNil))) (bName 3) (sIf (tNot (toTr (eCallD 1 [0] m__law_right (aCons (eVar 2) (aNil))))) (sRet (eC (.bl false))) (sNil)))))
  (sCons (sAsg (toE (fLst (aCons (eCallD 3 [] m_presence_paper (aCons (eC (.str [97, 98, 97, 97, 98])) (aCons (eC (.int 2)) (aCons (eC (.str [97, 98, 98, 97])) (aNil))))) (aCons (eCallD 3 [] m_presence_paper (aCons (eC (.str [97, 98, 97, 97, 98])) (aCons (eC (.int 2)) (aCons (eC (.str [98, 97, 97])) (aNil))))) (aCons (eCallD 4 [] m_is_presence_paper (aCons (eC (.str [97, 98, 97, 97, 98])) (aCons (eC (.int 2)) (aCons (eC (.str [97])) (aCons (eTup (aCons (eC (.str [97, 116])) (aCons (eC (.int 3)) (aNil)))) (aNil)))))) (aCons (eCallD 4 [] m_is_presence_paper (aCons (eC (.str [])) (aCons (eC (.int 1)) (aCons (eC (.str [])) (aCons (eTup (aCons (eC (.str [97, 116])) (aCons (eC (.int 0)) (aNil)))) (aNil)))))) (aNil))))))) (bName 4))
  (sRet (eAnd (eOp2 dEq (eVar 4) (toE (fLst (aCons (eTup (aCons (eC (.str [97, 98, 115, 101, 110, 116])) (aCons (eC (.int 1)) (aCons (eC (.int 3)) (aNil))))) (aCons (eTup (aCons (eC (.str [97, 116])) (aCons (eC (.int 1)) (aNil)))) (aCons (eC (.bl true)) (aCons (eC (.bl true)) (aNil)))))))) (eOp2 dIs (eCallD 4 [] m_is_presence_paper (aCons (eC (.str [97, 98])) (aCons (eC (.int 3)) (aCons (eC (.str [97, 98, 99])) (aCons (eTup (aCons (eC (.str [97, 98, 115, 101, 110, 116])) (aCons (eC (.int 2)) (aCons (eC (.int 3)) (aNil))))) (aNil)))))) (eC (.bl true))))))
def m_law : List Sl → R (D × List Sl) := mDef 1 4 h_law
end
end K89
end DL
end
section
set_option Elab.async false
set_option linter.all false
set_option maxRecDepth 100000
set_option maxHeartbeats 4000000
namespace DL
namespace K89
open PySem
theorem pull_pos {a b c t : Int} (ha : 0 < a) (h0 : 0 < t) (h1 : t < 1073741824) : m__law_pull [Bg a b c, .pu (.int t)] = .ok (.int (a % t), [Bg (a / t) b c, .pu (.int t)]) := by
  unfold m__law_pull h__law_pull mDef
  simp [fCons, sCons, sIf, sAsg, sRet, sNil, sStore, eIf, toT, eOp2, eCall, aCons, aNil, eVar, eC, bName, fLst, dInt1, dAbs, dMod, dMul, dAdd, dSub, dLt, dGt, dMax, dLen, dIx, dFdiv, dStore, muAt, R.ok_bind, deref, derefs, ofO, vals, valOf, ha, h0, h1, at3.1, at3.2.1, at3.2.2, ix3.1, ix3.2]
theorem small0 (x : Int) : -18446744073709551616 < x % 2305843009213693951 ∧ x % 2305843009213693951 < 18446744073709551616 := by omega
theorem pull_neg {a b c t : Int} (ha : ¬ 0 < a) (h0 : 0 < t) : ∃ x, m__law_pull [Bg a b c, .pu (.int t)] = .ok (.int (x % t), [Bg a b (c + 1), .pu (.int t)]) := by
  unfold m__law_pull h__law_pull mDef
  refine ⟨((((((((b + (10001701 * (c + 1))) % 2305843009213693951) * ((b + (10001701 * (c + 1))) % 2305843009213693951)) + (733 * (c + 1))) % 2305843009213693951) * 8589934609) + ((b + (10001701 * (c + 1))) % 2305843009213693951)) / 131072), ?_⟩
  simp [fCons, sCons, sIf, sAsg, sRet, sNil, sStore, eIf, toT, eOp2, eCall, aCons, aNil, eVar, eC, bName, fLst, dInt1, dAbs, dMod, dMul, dAdd, dSub, dLt, dGt, dMax, dLen, dIx, dFdiv, dStore, muAt, R.ok_bind, deref, derefs, ofO, vals, valOf, ha, h0, at3.1, at3.2.1, at3.2.2, ix3.1, ix3.2, small0]
theorem pull_ok : PullOk m__law_pull := by
  intro a b c t h0 h1
  by_cases ha : 0 < a
  · exact ⟨_, _, _, _, Int.emod_nonneg _ (by omega), Int.emod_lt_of_pos _ h0, pull_pos ha h0 h1⟩
  · obtain ⟨x, e⟩ := pull_neg (b := b) (c := c) ha h0
    exact ⟨_, _, _, _, Int.emod_nonneg _ (by omega), Int.emod_lt_of_pos _ h0, e⟩
def BIG : Int := ((10 : Int) ^ 39) ^ 8
theorem BIG_pos : 0 < BIG := by unfold BIG; decide
def MID : Int := (10 : Int) ^ 16
theorem epow1 : eOp2 dPow (eOp2 dPow (eC (.int 10)) (eC (.int 39))) (eC (.int 8)) = eC (.int BIG) := by
  funext γ; kernel_rfl
theorem epow2 : eOp2 dPow (eC (.int 10)) (eC (.int 16)) = eC (.int MID) := by
  funext γ; kernel_rfl
theorem bag1 (ns : List Int) (s : Nat) : ∃ c : Int, (sAsg (eIf (toT (eOp2 dLt (eVar 1) (eCall dLen (aCons (eVar 0) (aNil))))) (eCall dInt1 (aCons (eOp2 dIx (eVar 0) (eVar 1)) (aNil))) (eOp2 dAdd (eOp2 dMul (eC (.int 887)) (eVar 1)) (eC (.int 89)))) (bName 2)) [.pu (.scr (ns.map .int)), .pu (.int s), .un, .un, .un] = .ok (.next, [.pu (.scr (ns.map .int)), .pu (.int s), .pu (.int c), .un, .un]) := by
  have hz : (3 : Nat) ≤ sizeLine := by decide
  have hq := BIG_pos
  by_cases h : s < ns.length
  · simp [fCons, sCons, sIf, sAsg, sRet, sNil, sStore, eIf, toT, eOp2, eCall, aCons, aNil, eVar, eC, bName, fLst, dInt1, dAbs, dMod, dMul, dAdd, dSub, dLt, dGt, dMax, dLen, dIx, dFdiv, dStore, muAt, R.ok_bind, deref, derefs, ofO, vals, valOf, hz, hq, h, atI_map h]
  · simp [fCons, sCons, sIf, sAsg, sRet, sNil, sStore, eIf, toT, eOp2, eCall, aCons, aNil, eVar, eC, bName, fLst, dInt1, dAbs, dMod, dMul, dAdd, dSub, dLt, dGt, dMax, dLen, dIx, dFdiv, dStore, muAt, R.ok_bind, deref, derefs, ofO, vals, valOf, hz, hq, h]
theorem bag2 (ns : List Int) (s : Nat) (c : Int) : ∃ g : Int, (sAsg (eOp2 dMod (eCall dInt1 (aCons (eCall dAbs (aCons (eVar 2) (aNil))) (aNil))) (eC (.int BIG))) (bName 3)) [.pu (.scr (ns.map .int)), .pu (.int s), .pu (.int c), .un, .un] = .ok (.next, [.pu (.scr (ns.map .int)), .pu (.int s), .pu (.int c), .pu (.int g), .un]) := by
  have hz : (3 : Nat) ≤ sizeLine := by decide
  have hq := BIG_pos
  simp [fCons, sCons, sIf, sAsg, sRet, sNil, sStore, eIf, toT, eOp2, eCall, aCons, aNil, eVar, eC, bName, fLst, dInt1, dAbs, dMod, dMul, dAdd, dSub, dLt, dGt, dMax, dLen, dIx, dFdiv, dStore, muAt, R.ok_bind, deref, derefs, ofO, vals, valOf, hz, hq]
theorem bag3 (ns : List Int) (s : Nat) (c g : Int) : ∃ m : Int, (sAsg (eOp2 dAdd (eOp2 dAdd (eOp2 dAdd (eOp2 dMul (eOp2 dMod (eVar 3) (eC (.int 2305843009213693951))) (eC (.int 163))) (eOp2 dMul (eC (.int 607)) (eVar 1))) (eOp2 dMul (eC (.int 109)) (eCall dInt1 (aCons (eOp2 dLt (eVar 2) (eC (.int 0))) (aNil))))) (eC (.int 71))) (bName 4)) [.pu (.scr (ns.map .int)), .pu (.int s), .pu (.int c), .pu (.int g), .un] = .ok (.next, [.pu (.scr (ns.map .int)), .pu (.int s), .pu (.int c), .pu (.int g), .pu (.int m)]) := by
  have hz : (3 : Nat) ≤ sizeLine := by decide
  have hq := BIG_pos
  simp [fCons, sCons, sIf, sAsg, sRet, sNil, sStore, eIf, toT, eOp2, eCall, aCons, aNil, eVar, eC, bName, fLst, dInt1, dAbs, dMod, dMul, dAdd, dSub, dLt, dGt, dMax, dLen, dIx, dFdiv, dStore, muAt, R.ok_bind, deref, derefs, ofO, vals, valOf, hz, hq]
theorem bag4 (ns : List Int) (s : Nat) (c g m : Int) : ∃ a : Int, (fLst (aCons (eCall dMax (aCons (eC (.int 0)) (aCons (eOp2 dSub (eVar 3) (eC (.int MID))) (aNil)))) (aCons (eVar 4) (aCons (eC (.int 0)) (aNil))))) [.pu (.scr (ns.map .int)), .pu (.int s), .pu (.int c), .pu (.int g), .pu (.int m)] = .ok (.lst [.int a, .int m, .int 0], [.pu (.scr (ns.map .int)), .pu (.int s), .pu (.int c), .pu (.int g), .pu (.int m)]) := by
  have hz : (3 : Nat) ≤ sizeLine := by decide
  have hq := BIG_pos
  simp [fCons, sCons, sIf, sAsg, sRet, sNil, sStore, eIf, toT, eOp2, eCall, aCons, aNil, eVar, eC, bName, fLst, dInt1, dAbs, dMod, dMul, dAdd, dSub, dLt, dGt, dMax, dLen, dIx, dFdiv, dStore, muAt, R.ok_bind, deref, derefs, ofO, vals, valOf, hz, hq]
theorem bag_ok : BagOk mF__law_bag := by
  intro ns s
  obtain ⟨c, e1⟩ := bag1 ns s
  obtain ⟨g, e2⟩ := bag2 ns s c
  obtain ⟨m, e3⟩ := bag3 ns s c g
  obtain ⟨a, e4⟩ := bag4 ns s c g m
  refine ⟨a, m, ?_⟩
  unfold mF__law_bag hF__law_bag mDefF
  rw [epow1, epow2]
  show (fCons _ _ [.pu (.scr (ns.map .int)), .pu (.int s), .un, .un, .un] >>= _) = _
  rw [fCons_next e1, fCons_next e2, fCons_next e3, e4]
  rfl
end K89
end DL
end
section
set_option Elab.async false
set_option linter.all false
set_option maxRecDepth 100000
namespace DL
namespace K89
open PySem
theorem bag_at {m : List Sl → R (D × List Sl)} {γ : Ga} {a b c a' b' c' : Int} {x d : D} {f : Ga → R (Res × Ga)} (h0 : γ[0]? = some (Bg a b c)) (hf : Pv f γ x) (e : m [Bg a b c, .pu x] = .ok (d, [Bg a' b' c', .pu x])) :
    Ef (eCallD 2 [0] m (aCons (eVar 0) (aCons f aNil))) γ d (γ.set 0 (Bg a' b' c')) := by
  have hv : eVar 0 γ = .ok (.cell 0, γ) := by unfold eVar; rw [h0]
  have hm : muAt γ 0 = .ok (.lst [.int a, .int b, .int c]) := by unfold muAt; rw [h0]
  have hf : f γ = .ok (.val x, γ) := hf
  show eCallD _ _ _ _ _ = _
  simp [eCallD, aCons, hv, hf, aNil, R.ok_bind, argSl, hm, cellPos, cellIx, e, backSl]
theorem drawn {most : Nat} (hm : most < 1000) {a b c : Int} : ∃ (w : List Nat) (a' b' c' : Int), w.length ≤ most ∧ InAbc w ∧ m__law_drawn_word [Bg a b c, .pu (.int most)] = .ok (.str w, [Bg a' b' c', .pu (.int most)]) :=
  word_ok (mp := m__law_pull) (mc := m__law_choose) pull_ok rfl hm
theorem part_ok {w : List Nat} (hw : w.length ≤ 10) (hA : InAbc w) {a b c : Int} : ∃ (p : List Nat) (a' b' c' : Int), p.length ≤ 10 ∧ InAbc p ∧ m__law_part [Bg a b c, .pu (.str w)] = .ok (.str p, [Bg a' b' c', .pu (.str w)]) := by
  obtain ⟨way, a1, b1, c1, hway, e1⟩ := pull_at pull_ok (γ := [Bg a b c, .pu (.str w), .un, .un, .un, .un]) (t := 3) (ft := eC (.int 3)) rfl rfl (by decide) (by decide)
  have s1 : Nx (sAsg (eCallD 2 [0] m__law_pull (aCons (eVar 0) (aCons (eC (.int 3)) (aNil)))) (bName 2)) [Bg a b c, .pu (.str w), .un, .un, .un, .un] [Bg a1 b1 c1, .pu (.str w), .pu (.int way), .un, .un, .un] := Nx.asgE e1 rfl
  by_cases hr : (way = 0 ∨ w = [])
  · obtain ⟨p, a2, b2, c2, hp, hA2, e2⟩ := drawn (most := 6) (by decide) (a := a1) (b := b1) (c := c1)
    refine ⟨p, a2, b2, c2, by omega, hA2, ?_⟩
    have et : Eb (tOr (toT (eOp2 dEq (eVar 2) (eC (.int 0)))) (toT (eOp2 dEq (eVar 1) (eC (.str []))))) [Bg a1 b1 c1, .pu (.str w), .pu (.int way), .un, .un, .un] true [Bg a1 b1 c1, .pu (.str w), .pu (.int way), .un, .un, .un] := by
      by_cases h0 : way = 0
      · subst h0
        exact Eb.or_yes (Eb.t (Ef.op2 (Pv.var rfl) Pv.c rfl))
      · have hw0 : w = [] := hr.resolve_left h0
        subst hw0
        refine Eb.or_go (Eb.t (Ef.op2 (Pv.var rfl) Pv.c (d := .bl false) ?_)) (Eb.t (Ef.op2 (Pv.var rfl) Pv.c rfl))
        show some (D.bl ((way : Int) == 0)) = _
        congr 2; simp [h0]
    have r2 : Rt (sRet (eCallD 2 [0] m__law_drawn_word (aCons (eVar 0) (aCons (eC (.int 6)) (aNil))))) [Bg a1 b1 c1, .pu (.str w), .pu (.int way), .un, .un, .un] (.str p) [Bg a2 b2 c2, .pu (.str w), .pu (.int way), .un, .un, .un] := by
      have := bag_at (γ := [Bg a1 b1 c1, .pu (.str w), .pu (.int way), .un, .un, .un]) (f := eC (.int 6)) rfl rfl e2
      show sRet _ _ = _
      unfold sRet
      rw [show eCallD 2 [0] m__law_drawn_word (aCons (eVar 0) (aCons (eC (.int 6)) (aNil))) [Bg a1 b1 c1, .pu (.str w), .pu (.int way), .un, .un, .un] = _ from this]
      rfl
    show mDef 2 4 h__law_part _ = _
    refine mDef_ret (γ := [Bg a2 b2 c2, .pu (.str w), .pu (.int way), .un, .un, .un]) (.seq s1 ?_)
    show sCons _ _ _ = _
    unfold sCons
    rw [(sIf_yes et).trans r2]
    rfl
  · have h0 : way ≠ 0 := fun z => hr (.inl z)
    have hne : w ≠ [] := fun z => hr (.inr z)
    have f1 : dEq (.int (way : Int)) (.int 0) = some (.bl false) := by
      show some (D.bl ((way : Int) == 0)) = _
      congr 2; simp [h0]
    have f2 : dEq (.str w) (.str []) = some (.bl false) := by
      show some (D.bl (w == [])) = _
      congr 2; simp [hne]
    have s2 : Nx (sIf (tOr (toT (eOp2 dEq (eVar 2) (eC (.int 0)))) (toT (eOp2 dEq (eVar 1) (eC (.str []))))) (sRet (eCallD 2 [0] m__law_drawn_word (aCons (eVar 0) (aCons (eC (.int 6)) (aNil))))) (sNil)) [Bg a1 b1 c1, .pu (.str w), .pu (.int way), .un, .un, .un] [Bg a1 b1 c1, .pu (.str w), .pu (.int way), .un, .un, .un] :=
      (sIf_no (Eb.or_go (Eb.t (Ef.op2 (Pv.var rfl) Pv.c f1)) (Eb.t (Ef.op2 (Pv.var rfl) Pv.c f2)))).trans rfl
    obtain ⟨i, a2, b2, c2, hi, e2⟩ := pull_at pull_ok (γ := [Bg a1 b1 c1, .pu (.str w), .pu (.int way), .un, .un, .un]) (t := w.length + 1) (ft := eOp2 dAdd (eCall dLen (aCons (eVar 1) (aNil))) (eC (.int 1))) rfl (.op2 (.call (.cons (.var rfl) .nil) (d := .int (w.length : Int)) rfl) .c rfl) (by omega) (by omega)
    obtain ⟨n, a3, b3, c3, hn, e3⟩ := pull_at pull_ok (γ := [Bg a2 b2 c2, .pu (.str w), .pu (.int way), .pu (.int i), .un, .un]) (t := 6) (ft := eC (.int 6)) rfl rfl (by decide) (by decide)
    obtain ⟨q, hq⟩ : ∃ q, q = (w.take (i + n)).drop i := ⟨_, rfl⟩
    have fq : Fac q w := by rw [hq]; exact Fac.sl w i _
    have lq := fq.len
    have Aq := hA.fac fq
    have s3 : Nx (sAsg (eCallD 2 [0] m__law_pull (aCons (eVar 0) (aCons (eOp2 dAdd (eCall dLen (aCons (eVar 1) (aNil))) (eC (.int 1))) (aNil)))) (bName 3)) [Bg a1 b1 c1, .pu (.str w), .pu (.int way), .un, .un, .un] [Bg a2 b2 c2, .pu (.str w), .pu (.int way), .pu (.int i), .un, .un] := Nx.asgE e2 rfl
    have s4 : Nx (sAsg (eSl (eVar 1) (oSome (eVar 3)) (oSome (eOp2 dAdd (eVar 3) (eCallD 2 [0] m__law_pull (aCons (eVar 0) (aCons (eC (.int 6)) (aNil))))))) (bName 4)) [Bg a2 b2 c2, .pu (.str w), .pu (.int way), .pu (.int i), .un, .un] [Bg a3 b3 c3, .pu (.str w), .pu (.int way), .pu (.int i), .pu (.str q), .un] := by
      rw [hq]
      exact Nx.asgE (.sl (Pv.var rfl) (.some (Pv.var rfl)) (.some (.op2 (Pv.var rfl) e3 (d := .int ((i + n : Nat) : Int)) rfl)) (dSl_ij w i (i + n))) rfl
    have fin : ∀ {p : List Nat} {a4 b4 c4 : Int} {z : Sl}, Nx (sIf (tAnd (toT (eOp2 dEq (eVar 2) (eC (.int 1)))) (toT (eOp2 dNe (eVar 4) (eC (.str []))))) (sCons (sAsg (eCallD 2 [0] m__law_pull (aCons (eVar 0) (aCons (eCall dLen (aCons (eVar 4) (aNil))) (aNil)))) (bName 5))
        (sAsg (eOp2 dAdd (eOp2 dAdd (eSl (eVar 4) oNone (oSome (eVar 5))) (eCallD 2 [0] m__law_choose (aCons (eVar 0) (aCons (eC (.str [97, 98, 99])) (aNil))))) (eSl (eVar 4) (oSome (eOp2 dAdd (eVar 5) (eC (.int 1)))) oNone)) (bName 4))) (sNil))
        [Bg a3 b3 c3, .pu (.str w), .pu (.int way), .pu (.int i), .pu (.str q), .un] [Bg a4 b4 c4, .pu (.str w), .pu (.int way), .pu (.int i), .pu (.str p), z] →
        m__law_part [Bg a b c, .pu (.str w)] = .ok (.str p, [Bg a4 b4 c4, .pu (.str w)]) := fun {p a4 b4 c4 z} h => by
      show mDef 2 4 h__law_part _ = _
      exact mDef_ret (γ := [Bg a4 b4 c4, .pu (.str w), .pu (.int way), .pu (.int i), .pu (.str p), z]) (.seq s1 (.seq s2 (.seq s3 (.seq s4 (.seq h (.ret (.var rfl)))))))
    by_cases g : way = 1 ∧ q ≠ []
    · obtain ⟨g1, g2⟩ := g
      have lq0 : 0 < q.length := List.length_pos_iff.mpr g2
      obtain ⟨k, a4, b4, c4, hk, e4⟩ := pull_at pull_ok (γ := [Bg a3 b3 c3, .pu (.str w), .pu (.int way), .pu (.int i), .pu (.str q), .un]) (t := q.length) (ft := eCall dLen (aCons (eVar 4) (aNil))) rfl (.call (.cons (.var rfl) .nil) rfl) lq0 (by omega)
      obtain ⟨p, a5, b5, c5, l5, A5, e5⟩ := other pull_ok (mc := m__law_choose) rfl (γ := [Bg a4 b4 c4, .pu (.str w), .pu (.int way), .pu (.int i), .pu (.str q), .pu (.int (k : Int))]) (w := q) (at_ := k) (iw := 4) (ia := 5) rfl rfl rfl (by decide) (by decide) (by omega) Aq hk
      refine ⟨p, a5, b5, c5, by omega, A5, fin (z := .pu (.int (k : Int))) ((sIf_yes (Eb.and_go (Eb.t (Ef.op2 (Pv.var rfl) Pv.c (d := .bl true) (by rw [g1]; rfl))) (Eb.t (Ef.op2 (Pv.var rfl) Pv.c (d := .bl true) ?_)))).trans ((sCons_next (Nx.asgE e4 rfl)).trans (Nx.asgE e5 rfl)))⟩
      show some (D.bl (!(q == []))) = _
      congr 2; simp [g2]
    · refine ⟨q, a3, b3, c3, by omega, Aq, fin (z := .un) ((sIf_no ?_).trans rfl)⟩
      by_cases g1 : way = 1
      · have g2 : q = [] := Classical.byContradiction fun z => g ⟨g1, z⟩
        refine Eb.and_go (Eb.t (Ef.op2 (Pv.var rfl) Pv.c (d := .bl true) (by rw [g1]; rfl))) (Eb.t (Ef.op2 (Pv.var rfl) Pv.c (d := .bl false) (by rw [g2]; rfl)))
      · refine Eb.and_no (Eb.t (Ef.op2 (Pv.var rfl) Pv.c (d := .bl false) ?_))
        show some (D.bl ((way : Int) == 1)) = _
        congr 2
        rw [beq_eq_false_iff_ne]; omega
end K89
end DL
end
section
set_option Elab.async false
set_option linter.all false
set_option maxRecDepth 100000
namespace DL
namespace K89
open PySem
abbrev alpha : List Nat := [97, 98, 99, 100, 101, 102, 103, 104, 105, 106, 107, 108, 109, 110, 111, 112, 113, 114, 115, 116, 117, 118, 119, 120, 121, 122]
theorem bls_rep : ∀ (bs : List Bool), dBls (bs.map .bl) = some bs
  | [] => rfl
  | b :: bs => by
    have := bls_rep bs
    simp only [List.map_cons]
    unfold dBls
    rw [this]
theorem all_bls (bs : List Bool) : dAll [.lst (bs.map .bl)] = some (.bl (bs.all id)) := by
  show (dBls (bs.map .bl)).map (fun bs => D.bl (bs.all id)) = _
  rw [bls_rep]; rfl
theorem all_true (n : Nat) : dAll [.lst (List.replicate n (.bl true))] = some (.bl true) := by
  have := all_bls (List.replicate n true)
  rw [List.map_replicate] at this
  rw [this]
  simp
theorem isaE {f : Ga → R (Res × Ga)} {γ γ1 : Ga} {a : D} {t : BT} {k : Bool} (h : Ef f γ a γ1) (e : dIsa a t = some k) : Ef (eIsa t f) γ (.bl k) γ1 := Ef.op1 (F := fun d => (dIsa d t).map .bl) h (by rw [e]; rfl)
theorem abc_mem {c : Nat} (h : c ∈ abc) : dMem (.str [c]) (.str alpha) = some (.bl true) ∧ dMem (.str [c]) (.str abc) = some (.bl true) := by
  unfold abc at h
  simp only [List.mem_cons, List.not_mem_nil, or_false] at h
  rcases h with rfl | rfl | rfl <;> exact ⟨by kernel_rfl, by kernel_rfl⟩
theorem signs_len (w : List Nat) : (signs w).length = w.length := by simp [signs]
theorem map_true (w : List Nat) : ((signs w).filter fun _ => true).map (fun _ => D.bl true) = List.replicate w.length (D.bl true) := by
  rw [List.filter_eq_self.mpr fun _ _ => rfl, List.map_const', signs_len]
theorem text_ok {w : List Nat} {n : Nat} (hA : InAbc w) (hl : w.length ≤ n) (hn : n < 1000) : m_is_text_of [.pu (.str w), .pu (.int 0), .pu (.int n)] = .ok (.bl true, [.pu (.str w), .pu (.int 0), .pu (.int n)]) := by
  have e1 : Pb (tOr (tNot (toTr (eIsa .str (eVar 0)))) (tNot (toT (eChain (eVar 1) (chN dLe (eCall dLen (aCons (eVar 0) (aNil))) (chL dLe (eVar 2))))))) [.pu (.str w), .pu (.int 0), .pu (.int n), .un] false := by
    refine Eb.or_go (Eb.not (Eb.tr (isaE (Pv.var rfl) (k := true) rfl) (k := true) rfl)) (Eb.not (Eb.t (k := true) ?_))
    have h1 : dLe (.int 0) (.int (w.length : Int)) = some (.bl true) := by
      show some (D.bl (decide ((0 : Int) ≤ _))) = _
      rw [decide_eq_true (by omega)]
    have h2 : dLe (.int (w.length : Int)) (.int (n : Int)) = some (.bl true) := by
      show some (D.bl (decide ((w.length : Int) ≤ _))) = _
      rw [decide_eq_true (by omega)]
    show eChain _ _ _ = _
    unfold eChain
    rw [show eVar 1 [.pu (.str w), .pu (.int 0), .pu (.int n), .un] = .ok (.val (.int 0), _) from rfl, R.ok_bind]
    simp only [valOf, R.ok_bind]
    unfold chN
    rw [show eCall dLen (aCons (eVar 0) (aNil)) [.pu (.str w), .pu (.int 0), .pu (.int n), .un] = .ok (.val (.int (w.length : Int)), [.pu (.str w), .pu (.int 0), .pu (.int n), .un]) from Pv.call (.cons (.var rfl) .nil) rfl, R.ok_bind]
    simp only [valOf, R.ok_bind, h1, ofO]
    unfold chL
    rw [show eVar 2 [.pu (.str w), .pu (.int 0), .pu (.int n), .un] = .ok (.val (.int n), [.pu (.str w), .pu (.int 0), .pu (.int n), .un]) from rfl, R.ok_bind]
    simp only [deref, R.ok_bind, h2, ofO]
  have e2 : compL (iAnyV (eVar 0)) (bName 3) tYesG (eOp2 dMem (eVar 3) (eC (.str alpha))) [3] [.pu (.str w), .pu (.int 0), .pu (.int n), .un] = .ok (.lst (List.replicate w.length (.bl true)), [.pu (.str w), .pu (.int 0), .pu (.int n), .un]) := by
    rw [← map_true w]
    refine compL_pure (ds := signs w) (fun _ => true) (fun _ => .bl true) (Pi.any (Pv.var rfl) rfl) (by rw [signs_len, sizeLine_eq]; omega) rfl fun d hd => ?_
    obtain ⟨c, hc, rfl⟩ := List.mem_map.mp hd
    exact ⟨[.pu (.str w), .pu (.int 0), .pu (.int n), .pu (.str [c])], rfl, rfl, fun _ => Ef.op2 (Pv.var rfl) Pv.c (abc_mem (hA c hc)).1, rfl⟩
  show mDef 3 1 h_is_text_of _ = _
  exact mDef_ret (γ := [.pu (.str w), .pu (.int 0), .pu (.int n), .un]) (.seq ((sIf_no e1).trans rfl) (.ret (.call (.cons (.toE e2) .nil) (all_true _))))
theorem within_ok {w : List Nat} (hA : InAbc w) (hl : w.length ≤ 100) : m_are_within [.pu (.str w), .pu (.int 3)] = .ok (.bl true, [.pu (.str w), .pu (.int 3)]) := by
  have e2 : compL (iAnyV (eVar 0)) (bName 2) tYesG (eOp2 dMem (eVar 2) (eSl (eC (.str alpha)) oNone (oSome (eVar 1)))) [2] [.pu (.str w), .pu (.int 3), .un] = .ok (.lst (List.replicate w.length (.bl true)), [.pu (.str w), .pu (.int 3), .un]) := by
    rw [← map_true w]
    refine compL_pure (ds := signs w) (fun _ => true) (fun _ => .bl true) (Pi.any (Pv.var rfl) rfl) (by rw [signs_len, sizeLine_eq]; omega) rfl fun d hd => ?_
    obtain ⟨c, hc, rfl⟩ := List.mem_map.mp hd
    exact ⟨[.pu (.str w), .pu (.int 3), .pu (.str [c])], rfl, rfl, fun _ => Ef.op2 (Pv.var rfl) (Ef.sl (a := .str alpha) rfl .none (.some (Pv.var rfl)) (dSl_j alpha 3)) (abc_mem (hA c hc)).2, rfl⟩
  show mDef 2 1 h_are_within _ = _
  exact mDef_ret (γ := [.pu (.str w), .pu (.int 3), .un]) (.ret (.call (.cons (.toE e2) .nil) (all_true _)))
theorem many_ok : m_need_many [.pu (.int 3)] = .ok (.non, [.pu (.int 3)]) := by kernel_rfl
theorem mDef_next {n x : Nat} {h : Ga → R (Fl × Ga)} {ins : List Sl} {γ : Ga} (e : Nx h (ins ++ List.replicate x .un) γ) : mDef n x h ins = .ok (.non, γ.take n) := by
  unfold mDef
  rw [e]
  rfl
theorem Nx.expr {γ γ1 : Ga} {f : Ga → R (Res × Ga)} {d : D} (h : Ef f γ d γ1) : Nx (sExpr f) γ γ1 := by
  show (f γ >>= _) = _
  rw [h]; rfl
theorem need_text {w : List Nat} {n : Nat} {c : Str} (hA : InAbc w) (hl : w.length ≤ n) (hn : n < 1000) : Nx (sIf (tNot (toTr (eCallD 3 [] m_is_text_of (aCons (eVar 0) (aCons (eC (.int 0)) (aCons (eC (.int n)) (aNil))))))) (sRaise c) (sNil)) [.pu (.str w)] [.pu (.str w)] :=
  (sIf_no (Eb.not (Eb.tr (Pv.callD (as := [.str w, .int 0, .int n]) (.cons (.var rfl) (.cons .c (.cons .c .nil))) rfl (text_ok hA hl hn) (by simp)) (k := true) rfl))).trans rfl
theorem need_ok {w p : List Nat} (hw : w.length ≤ 10) (hp : p.length ≤ 10) (hA : InAbc w) (hB : InAbc p) : m_need_all [.pu (.str w), .pu (.int 3), .pu (.str p)] = .ok (.non, [.pu (.str w), .pu (.int 3), .pu (.str p)]) := by
  have n1 : m_need_here [.pu (.str w)] = .ok (.non, [.pu (.str w)]) := by
    show mDef 1 0 h_need_here _ = _
    exact mDef_next (γ := [.pu (.str w)]) (need_text (n := 24) hA (by omega) (by decide))
  have n2 : m_need_part [.pu (.str p)] = .ok (.non, [.pu (.str p)]) := by
    show mDef 1 0 h_need_part _ = _
    exact mDef_next (γ := [.pu (.str p)]) (need_text (n := 40) hB (by omega) (by decide))
  have n3 : m_need_word_many [.pu (.str w), .pu (.int 3)] = .ok (.non, [.pu (.str w), .pu (.int 3)]) := by
    show mDef 2 0 h_need_word_many _ = _
    exact mDef_next (γ := [.pu (.str w), .pu (.int 3)]) (.seq (Nx.expr (Pv.callD (as := [.str w]) (.cons (.var rfl) .nil) rfl n1 (by simp))) (.seq (Nx.expr (Pv.callD (as := [.int 3]) (.cons (.var rfl) .nil) rfl many_ok (by simp)))
      ((sIf_no (Eb.not (Eb.tr (Pv.callD (as := [.str w, .int 3]) (.cons (.var rfl) (.cons (.var rfl) .nil)) rfl (within_ok hA (by omega)) (by simp)) (k := true) rfl))).trans rfl)))
  show mDef 3 0 h_need_all _ = _
  exact mDef_next (γ := [.pu (.str w), .pu (.int 3), .pu (.str p)]) (.seq (Nx.expr (Pv.callD (as := [.str w, .int 3]) (.cons (.var rfl) (.cons (.var rfl) .nil)) rfl n3 (by simp))) (.seq (Nx.expr (Pv.callD (as := [.str p]) (.cons (.var rfl) .nil) rfl n2 (by simp)))
      ((sIf_no (Eb.not (Eb.tr (Pv.callD (as := [.str p, .int 3]) (.cons (.var rfl) (.cons (.var rfl) .nil)) rfl (within_ok hB (by omega)) (by simp)) (k := true) rfl))).trans rfl)))
end K89
end DL
end
section
set_option Elab.async false
set_option linter.all false
set_option maxRecDepth 100000
namespace DL
namespace K89
open PySem
/-! ### filters of ranges: the first, the last -/
theorem first_of (q : Nat → Bool) : ∀ n, (∃ k, k < n ∧ q k = true) → ∃ e, e < n ∧ q e = true ∧ (∀ k, k < e → q k = false) ∧ ((List.range n).filter q)[0]? = some e
  | 0, ⟨k, h, _⟩ => absurd h (Nat.not_lt_zero k)
  | n + 1, ⟨k, h1, h2⟩ => by
    rw [List.range_succ, List.filter_append]
    by_cases g : ∃ k, k < n ∧ q k = true
    · obtain ⟨e, e1, e2, e3, e4⟩ := first_of q n g
      refine ⟨e, by omega, e2, e3, ?_⟩
      have hl : 0 < ((List.range n).filter q).length := by
        have := (List.getElem?_eq_some_iff.mp e4).1
        exact this
      rw [List.getElem?_append_left hl]; exact e4
    · have hf : ∀ k, k < n → q k = false := fun k hk => by
        cases e : q k with
        | false => rfl
        | true => exact absurd ⟨k, hk, e⟩ g
      have hn : (List.range n).filter q = [] := by
        rw [List.filter_eq_nil_iff]
        intro x hx
        rw [hf x (List.mem_range.mp hx)]; simp
      have hk : k = n := by
        by_cases z : k < n
        · rw [hf k z] at h2; cases h2
        · omega
      subst hk
      exact ⟨k, by omega, h2, hf, by rw [hn]; simp [h2]⟩
theorem last_of (q : Nat → Bool) : ∀ n, (∃ k, k < n ∧ q k = true) → ∃ e, e < n ∧ q e = true ∧ (∀ k, e < k → k < n → q k = false) ∧ ((List.range n).filter q).getLast? = some e
  | 0, ⟨k, h, _⟩ => absurd h (Nat.not_lt_zero k)
  | n + 1, ⟨k, h1, h2⟩ => by
    rw [List.range_succ, List.filter_append]
    cases e : q n with
    | true => exact ⟨n, by omega, e, fun k a b => by omega, by simp [e]⟩
    | false =>
      have hk : k < n := by
        by_cases z : k = n
        · rw [z, e] at h2; cases h2
        · omega
      obtain ⟨b, b1, b2, b3, b4⟩ := last_of q n ⟨k, hk, h2⟩
      refine ⟨b, by omega, b2, fun k a c => ?_, by simp [e, b4]⟩
      by_cases z : k = n
      · rw [z]; exact e
      · exact b3 k a (by omega)
theorem atI_zero {α : Type} {xs : List α} {d : α} (h : xs[0]? = some d) : L2.atI xs 0 = some d := by
  have hl := (List.getElem?_eq_some_iff.mp h).1
  have : L2.ixN xs.length 0 = some 0 := by
    unfold L2.ixN
    rw [if_pos (by decide), if_pos (by omega)]
    rfl
  unfold L2.atI
  rw [this]; exact h
theorem atI_last {α : Type} {xs : List α} {d : α} (h : xs.getLast? = some d) : L2.atI xs (-1) = some d := by
  rw [List.getLast?_eq_getElem?] at h
  have hl := (List.getElem?_eq_some_iff.mp h).1
  have : L2.ixN xs.length (-1) = some (xs.length - 1) := by
    unfold L2.ixN
    rw [if_neg (by decide), if_pos (by omega)]
    congr 1
    omega
  unfold L2.atI
  rw [this]; exact h
abbrev nums (ns : List Nat) : List D := ns.map fun n : Nat => D.int n
theorem plains_ints : ∀ (ns : List Nat) (k : Nat), D.plains k (nums ns) = true
  | [], k => by unfold nums; simp [D.plains]
  | n :: ns, k => by
    have := plains_ints ns k
    unfold nums at this ⊢
    simp only [List.map_cons, D.plains, this, Bool.and_true]
    cases k <;> simp [D.plain]
theorem ne_nil (ns : List Nat) : dNe (.lst (nums ns)) (.lst []) = some (.bl (!ns.isEmpty)) := by
  have h1 : D.plain deepest (.lst (nums ns)) = true := by
    show D.plain (29 + 1) (.lst (nums ns)) = true
    unfold D.plain
    exact plains_ints ns 29
  have h2 : D.plain deepest (.lst []) = true := by decide +kernel
  unfold dNe
  rw [h1, h2]
  cases ns <;> rfl
/-- what a comprehension over a range leaves -/
theorem filt (q : Nat → Bool) (n : Nat) : (((List.range n).map fun i : Nat => D.int i).filter fun d => match d with | .int i => q i.toNat | _ => false).map (fun d => d) = nums ((List.range n).filter q) := by
  rw [List.map_id', List.filter_map]
  rfl
theorem eq_dec {x y : List Nat} : dEq (.str x) (.str y) = some (.bl (decide (x = y))) := by
  show some (D.bl (x == y)) = _
  congr 2
  by_cases h : x = y
  · rw [decide_eq_true h, h]; simp
  · rw [decide_eq_false h]; simp [h]
theorem notMem_fac {x w : List Nat} : dNotMem (.str x) (.str w) = some (.bl (decide (¬ Fac x w))) := by
  show some (D.bl (!(isIn x w))) = _
  rw [isIn_dec]; congr 2; simp
theorem mem_fac {x w : List Nat} : dMem (.str x) (.str w) = some (.bl (decide (Fac x w))) := by
  show some (D.bl (isIn x w)) = _
  rw [isIn_dec]
theorem place_ok {w p : List Nat} (hw : w.length ≤ 10) (hp : p.length ≤ 10) : (∃ i : Nat, i + p.length ≤ w.length ∧ (w.take (i + p.length)).drop i = p ∧ m_place_of [.pu (.str w), .pu (.str p)] = .ok (.int i, [.pu (.str w), .pu (.str p)])) ∨
    (¬ Fac p w ∧ m_place_of [.pu (.str w), .pu (.str p)] = .ok (.non, [.pu (.str w), .pu (.str p)])) := by
  obtain ⟨n, hn⟩ : ∃ n, n = ((w.length : Int) - (p.length : Int) + 1).toNat := ⟨_, rfl⟩
  have er : rangeD1 [.int ((w.length : Int) - (p.length : Int) + 1)] = some ((List.range n).map fun i : Nat => D.int i) := by
    have : okI ((w.length : Int) - (p.length : Int) + 1) = true := by unfold okI; simp only [Bool.and_eq_true, decide_eq_true_eq]; omega
    unfold rangeD1
    rw [← rng_nat, hn]
    simp [this]
  let q : Nat → Bool := fun i => decide ((w.take (i + p.length)).drop i = p)
  have e1 : compL (iRange rangeD1 (aCons (eOp2 dAdd (eOp2 dSub (eCall dLen (aCons (eVar 0) (aNil))) (eCall dLen (aCons (eVar 1) (aNil)))) (eC (.int 1))) (aNil))) (bName 3) (toT (eOp2 dEq (eSl (eVar 0) (oSome (eVar 3)) (oSome (eOp2 dAdd (eVar 3) (eCall dLen (aCons (eVar 1) (aNil)))))) (eVar 1))) (eVar 3) [3] [.pu (.str w), .pu (.str p), .un, .un] = .ok (.lst (nums ((List.range n).filter q)), [.pu (.str w), .pu (.str p), .un, .un]) := by
    rw [← filt q n]
    refine compL_pure (ds := (List.range n).map fun i : Nat => D.int i) (fun d => match d with | .int i => q i.toNat | _ => false) (fun d => d) (Ir.range (.cons (.op2 (.op2 (Pv.call (.cons (.var rfl) .nil) (d := .int (w.length : Int)) rfl) (Pv.call (.cons (.var rfl) .nil) (d := .int (p.length : Int)) rfl) rfl) Pv.c rfl) .nil) er) (by rw [sizeLine_eq]; simp; omega) rfl fun d hd => ?_
    obtain ⟨i, hi, rfl⟩ := List.mem_map.mp hd
    exact ⟨[.pu (.str w), .pu (.str p), .un, .pu (.int (i : Int))], rfl, Eb.t (.op2 (.sl (Pv.var rfl) (.some (Pv.var rfl)) (.some (.op2 (Pv.var rfl) (Pv.call (.cons (.var rfl) .nil) (d := .int (p.length : Int)) rfl) (d := .int ((i + p.length : Nat) : Int)) rfl)) (dSl_ij w i (i + p.length))) (Pv.var rfl) eq_dec), fun _ => rfl, rfl⟩
  have s1 : Nx (sAsg (toE (compL (iRange rangeD1 (aCons (eOp2 dAdd (eOp2 dSub (eCall dLen (aCons (eVar 0) (aNil))) (eCall dLen (aCons (eVar 1) (aNil)))) (eC (.int 1))) (aNil))) (bName 3) (toT (eOp2 dEq (eSl (eVar 0) (oSome (eVar 3)) (oSome (eOp2 dAdd (eVar 3) (eCall dLen (aCons (eVar 1) (aNil)))))) (eVar 1))) (eVar 3) [3])) (bName 2)) [.pu (.str w), .pu (.str p), .un, .un] [.pu (.str w), .pu (.str p), .pu (.lst (nums ((List.range n).filter q))), .un] := Nx.asgE (.toE e1) rfl
  have fin : ∀ {d : D}, Pv (eIf (toT (eOp2 dNe (eVar 2) (toE (fLst (aNil))))) (eOp2 dIx (eVar 2) (eC (.int 0))) (eC .non)) [.pu (.str w), .pu (.str p), .pu (.lst (nums ((List.range n).filter q))), .un] d → m_place_of [.pu (.str w), .pu (.str p)] = .ok (d, [.pu (.str w), .pu (.str p)]) := fun {d} h => by
    show mDef 2 2 h_place_of _ = _
    exact mDef_ret (γ := [.pu (.str w), .pu (.str p), .pu (.lst (nums ((List.range n).filter q))), .un]) (.seq s1 (.ret h))
  have et : Pb (toT (eOp2 dNe (eVar 2) (toE (fLst (aNil))))) [.pu (.str w), .pu (.str p), .pu (.lst (nums ((List.range n).filter q))), .un] (!((List.range n).filter q).isEmpty) := Eb.t (.op2 (Pv.var rfl) (.toE (fr_lst (as := []) .nil (by rw [sizeLine_eq]; decide))) (ne_nil _))
  by_cases g : ∃ k, k < n ∧ q k = true
  · obtain ⟨i, i1, i2, i3, i4⟩ := first_of q n g
    have hq : (w.take (i + p.length)).drop i = p := of_decide_eq_true i2
    have hne : ((List.range n).filter q).isEmpty = false := by
      cases e : (List.range n).filter q with
      | nil => rw [e] at i4; cases i4
      | cons _ _ => rfl
    rw [hne] at et
    refine .inl ⟨i, by omega, hq, fin (Pv.iff et (fun _ => .op2 (Pv.var rfl) Pv.c ?_) (fun z => by cases z))⟩
    refine atI_zero ?_
    rw [List.getElem?_map, i4]; rfl
  · have hq : ∀ k, k < n → q k = false := fun k hk => by
      cases e : q k with
      | false => rfl
      | true => exact absurd ⟨k, hk, e⟩ g
    have hn0 : (List.range n).filter q = [] := by
      rw [List.filter_eq_nil_iff]
      intro x hx
      rw [hq x (List.mem_range.mp hx)]; simp
    refine .inr ⟨fun h => ?_, fin (Pv.iff et (fun z => by rw [hn0] at z; cases z) fun _ => rfl)⟩
    obtain ⟨i, h1, h2⟩ := fac_iff.mp h
    have := hq i (by omega)
    exact absurd h2 (of_decide_eq_false this)
end K89
end DL
end
section
set_option Elab.async false
set_option linter.all false
set_option maxRecDepth 100000
namespace DL
namespace K89
open PySem
theorem least_ok {w p : List Nat} (hw : w.length ≤ 10) (hp : p.length ≤ 10) (hf : ¬ Fac p w) : ∃ b e : Nat, b < e ∧ e ≤ p.length ∧ ¬ Fac ((p.take e).drop b) w ∧ (∀ k, b < k → k < e → Fac ((p.take e).drop k) w) ∧ (∀ k, k < e → Fac (p.take k) w) ∧
    m_least_within [.pu (.str w), .pu (.str p)] = .ok (.tup [.int b, .int e], [.pu (.str w), .pu (.str p)]) := by
  let q1 : Nat → Bool := fun k => decide (¬ Fac (p.take k) w)
  obtain ⟨e, e1, e2, e3, e4⟩ := first_of q1 (p.length + 1) ⟨p.length, by omega, decide_eq_true (by rw [List.take_length]; exact hf)⟩
  have he : ¬ Fac (p.take e) w := of_decide_eq_true e2
  have hm : ∀ k, k < e → Fac (p.take k) w := fun k hk => Classical.byContradiction fun z => by
    have := of_decide_eq_false (e3 k hk)
    exact this z
  have e0 : 0 < e := by
    by_cases z : e = 0
    · subst z; exact absurd (by rw [List.take_zero]; exact Fac.nil w) he
    · omega
  let q2 : Nat → Bool := fun k => decide (¬ Fac ((p.take e).drop k) w)
  obtain ⟨b, b1, b2, b3, b4⟩ := last_of q2 e ⟨0, e0, decide_eq_true (by rw [List.drop_zero]; exact he)⟩
  have hb : ¬ Fac ((p.take e).drop b) w := of_decide_eq_true b2
  have hmb : ∀ k, b < k → k < e → Fac ((p.take e).drop k) w := fun k h1 h2 => Classical.byContradiction fun z => by
    have := of_decide_eq_false (b3 k h1 h2)
    exact this z
  refine ⟨b, e, b1, by omega, hb, hmb, hm, ?_⟩
  have c1 : compL (iRange rangeD1 (aCons (eOp2 dAdd (eCall dLen (aCons (eVar 1) (aNil))) (eC (.int 1))) (aNil))) (bName 4) (toT (eOp2 dNotMem (eSl (eVar 1) oNone (oSome (eVar 4))) (eVar 0))) (eVar 4) [4] [.pu (.str w), .pu (.str p), .un, .un, .un] = .ok (.lst (nums ((List.range (p.length + 1)).filter q1)), [.pu (.str w), .pu (.str p), .un, .un, .un]) := by
    rw [← filt q1 (p.length + 1)]
    refine compL_pure (ds := (List.range (p.length + 1)).map fun i : Nat => D.int i) (fun d => match d with | .int i => q1 i.toNat | _ => false) (fun d => d) (Ir.range (.cons (.op2 (Pv.call (.cons (.var rfl) .nil) (d := .int (p.length : Int)) rfl) Pv.c (d := .int ((p.length + 1 : Nat) : Int)) rfl) .nil) (by rw [rng_of _ (by omega), rng_nat])) (by rw [sizeLine_eq]; simp; omega) rfl fun d hd => ?_
    obtain ⟨i, hi, rfl⟩ := List.mem_map.mp hd
    exact ⟨[.pu (.str w), .pu (.str p), .un, .un, .pu (.int (i : Int))], rfl, Eb.t (.op2 (.sl (Pv.var rfl) .none (.some (Pv.var rfl)) (dSl_j p i)) (Pv.var rfl) notMem_fac), fun _ => rfl, rfl⟩
  have s1 : Nx (sAsg (eOp2 dIx (toE (compL (iRange rangeD1 (aCons (eOp2 dAdd (eCall dLen (aCons (eVar 1) (aNil))) (eC (.int 1))) (aNil))) (bName 4) (toT (eOp2 dNotMem (eSl (eVar 1) oNone (oSome (eVar 4))) (eVar 0))) (eVar 4) [4])) (eC (.int 0))) (bName 2)) [.pu (.str w), .pu (.str p), .un, .un, .un] [.pu (.str w), .pu (.str p), .pu (.int (e : Int)), .un, .un] := by
    refine Nx.asgE (.op2 (.toE c1) Pv.c (d := .int (e : Int)) ?_) rfl
    exact atI_zero (by rw [List.getElem?_map, e4]; rfl)
  have c2 : compL (iRange rangeD1 (aCons (eVar 2) (aNil))) (bName 4) (toT (eOp2 dNotMem (eSl (eVar 1) (oSome (eVar 4)) (oSome (eVar 2))) (eVar 0))) (eVar 4) [4] [.pu (.str w), .pu (.str p), .pu (.int (e : Int)), .un, .un] = .ok (.lst (nums ((List.range e).filter q2)), [.pu (.str w), .pu (.str p), .pu (.int (e : Int)), .un, .un]) := by
    rw [← filt q2 e]
    refine compL_pure (ds := (List.range e).map fun i : Nat => D.int i) (fun d => match d with | .int i => q2 i.toNat | _ => false) (fun d => d) (Ir.range (.cons (Pv.var rfl) .nil) (by rw [rng_of _ (by omega), rng_nat])) (by rw [sizeLine_eq]; simp; omega) rfl fun d hd => ?_
    obtain ⟨i, hi, rfl⟩ := List.mem_map.mp hd
    exact ⟨[.pu (.str w), .pu (.str p), .pu (.int (e : Int)), .un, .pu (.int (i : Int))], rfl, Eb.t (.op2 (.sl (Pv.var rfl) (.some (Pv.var rfl)) (.some (Pv.var rfl)) (dSl_ij p i e)) (Pv.var rfl) notMem_fac), fun _ => rfl, rfl⟩
  have s2 : Nx (sAsg (eOp2 dIx (toE (compL (iRange rangeD1 (aCons (eVar 2) (aNil))) (bName 4) (toT (eOp2 dNotMem (eSl (eVar 1) (oSome (eVar 4)) (oSome (eVar 2))) (eVar 0))) (eVar 4) [4])) (eOp1 dNeg (eC (.int 1)))) (bName 3)) [.pu (.str w), .pu (.str p), .pu (.int (e : Int)), .un, .un] [.pu (.str w), .pu (.str p), .pu (.int (e : Int)), .pu (.int (b : Int)), .un] := by
    refine Nx.asgE (.op2 (.toE c2) (Ef.op1 Pv.c (d := .int (-1)) rfl) (d := .int (b : Int)) ?_) rfl
    exact atI_last (by rw [List.getLast?_map, b4]; rfl)
  show mDef 2 3 h_least_within _ = _
  exact mDef_ret (γ := [.pu (.str w), .pu (.str p), .pu (.int (e : Int)), .pu (.int (b : Int)), .un]) (.seq s1 (.seq s2 (.ret (.tup (.cons (.var rfl) (.cons (.var rfl) .nil)) (by rw [sizeLine_eq]; simp)))))
abbrev AT : List Nat := [97, 116]
abbrev ABS : List Nat := [97, 98, 115, 101, 110, 116]
/-- the paper -/
theorem paper_ok {w p : List Nat} (hw : w.length ≤ 10) (hp : p.length ≤ 10) (hA : InAbc w) (hB : InAbc p) :
    (∃ i : Nat, Fac p w ∧ i + p.length ≤ w.length ∧ (w.take (i + p.length)).drop i = p ∧ m_presence_paper [.pu (.str w), .pu (.int 3), .pu (.str p)] = .ok (.tup [.str AT, .int i], [.pu (.str w), .pu (.int 3), .pu (.str p)])) ∨
    (∃ b e : Nat, ¬ Fac p w ∧ b < e ∧ e ≤ p.length ∧ ¬ Fac ((p.take e).drop b) w ∧ (∀ k, b < k → k < e → Fac ((p.take e).drop k) w) ∧ (∀ k, k < e → Fac (p.take k) w) ∧ m_presence_paper [.pu (.str w), .pu (.int 3), .pu (.str p)] = .ok (.tup [.str ABS, .int b, .int e], [.pu (.str w), .pu (.int 3), .pu (.str p)])) := by
  have n1 : Nx (sExpr (eCallD 3 [] m_need_all (aCons (eVar 0) (aCons (eVar 1) (aCons (eVar 2) (aNil)))))) [.pu (.str w), .pu (.int 3), .pu (.str p), .un, .un, .un] [.pu (.str w), .pu (.int 3), .pu (.str p), .un, .un, .un] :=
    Nx.expr (Pv.callD (as := [.str w, .int 3, .str p]) (.cons (.var rfl) (.cons (.var rfl) (.cons (.var rfl) .nil))) rfl (need_ok hw hp hA hB) (by simp))
  rcases place_ok hw hp with ⟨i, h1, h2, h3⟩ | ⟨h1, h3⟩
  · refine .inl ⟨i, fac_iff.mpr ⟨i, h1, h2⟩, h1, h2, ?_⟩
    have n2 : Nx (sAsg (eCallD 2 [] m_place_of (aCons (eVar 0) (aCons (eVar 2) (aNil)))) (bName 3)) [.pu (.str w), .pu (.int 3), .pu (.str p), .un, .un, .un] [.pu (.str w), .pu (.int 3), .pu (.str p), .pu (.int (i : Int)), .un, .un] :=
      Nx.asgE (Pv.callD (as := [.str w, .str p]) (.cons (.var rfl) (.cons (.var rfl) .nil)) rfl h3 (by simp)) rfl
    have n3 : Rt (sIf (toT (eOp2 dIsNot (eVar 3) (eC .non))) (sRet (eTup (aCons (eC (.str AT)) (aCons (eVar 3) (aNil))))) (sNil)) [.pu (.str w), .pu (.int 3), .pu (.str p), .pu (.int (i : Int)), .un, .un] (.tup [.str AT, .int i]) [.pu (.str w), .pu (.int 3), .pu (.str p), .pu (.int (i : Int)), .un, .un] :=
      (sIf_yes (Eb.t (Ef.op2 (Pv.var rfl) Pv.c rfl))).trans (Rt.ret (.tup (.cons .c (.cons (.var rfl) .nil)) (by rw [sizeLine_eq]; simp)))
    show mDef 3 3 h_presence_paper _ = _
    refine mDef_ret (γ := [.pu (.str w), .pu (.int 3), .pu (.str p), .pu (.int (i : Int)), .un, .un]) (.seq n1 (.seq n2 ?_))
    show sCons _ _ _ = _
    unfold sCons
    rw [n3]; rfl
  · obtain ⟨b, e, k1, k2, k3, k4, k5, k6⟩ := least_ok hw hp h1
    refine .inr ⟨b, e, h1, k1, k2, k3, k4, k5, ?_⟩
    have n2 : Nx (sAsg (eCallD 2 [] m_place_of (aCons (eVar 0) (aCons (eVar 2) (aNil)))) (bName 3)) [.pu (.str w), .pu (.int 3), .pu (.str p), .un, .un, .un] [.pu (.str w), .pu (.int 3), .pu (.str p), .pu .non, .un, .un] :=
      Nx.asgE (Pv.callD (as := [.str w, .str p]) (.cons (.var rfl) (.cons (.var rfl) .nil)) rfl h3 (by simp)) rfl
    have n3 : Nx (sIf (toT (eOp2 dIsNot (eVar 3) (eC .non))) (sRet (eTup (aCons (eC (.str AT)) (aCons (eVar 3) (aNil))))) (sNil)) [.pu (.str w), .pu (.int 3), .pu (.str p), .pu .non, .un, .un] [.pu (.str w), .pu (.int 3), .pu (.str p), .pu .non, .un, .un] :=
      (sIf_no (Eb.t (Ef.op2 (Pv.var rfl) Pv.c rfl))).trans rfl
    have n4 : Nx (sAsg (eCallD 2 [] m_least_within (aCons (eVar 0) (aCons (eVar 2) (aNil)))) (bTup 2 (bCons (bName 4) (bCons (bName 5) (bNil))))) [.pu (.str w), .pu (.int 3), .pu (.str p), .pu .non, .un, .un] [.pu (.str w), .pu (.int 3), .pu (.str p), .pu .non, .pu (.int (b : Int)), .pu (.int (e : Int))] :=
      Nx.asgE (Pv.callD (as := [.str w, .str p]) (.cons (.var rfl) (.cons (.var rfl) .nil)) rfl k6 (by simp)) rfl
    show mDef 3 3 h_presence_paper _ = _
    exact mDef_ret (γ := [.pu (.str w), .pu (.int 3), .pu (.str p), .pu .non, .pu (.int (b : Int)), .pu (.int (e : Int))]) (.seq n1 (.seq n2 (.seq n3 (.seq n4 (.ret (.tup (.cons .c (.cons (.var rfl) (.cons (.var rfl) .nil))) (by rw [sizeLine_eq]; simp)))))))
end K89
end DL
end
section
set_option Elab.async false
set_option linter.all false
set_option maxRecDepth 100000
namespace DL
namespace K89
open PySem
section
variable {γ : Ga} {fa fb fc fd : Ga → R (Res × Ga)} {a b c d : D} {F G H : D → D → Option D} {k1 k2 k3 : Bool}
theorem chain2 (ha : Pv fa γ a) (hb : Pv fb γ b) (hc : Pv fc γ c) (e1 : F a b = some (.bl k1)) (e2 : k1 = true → G b c = some (.bl k2)) : Pv (eChain fa (chN F fb (chL G fc))) γ (.bl (k1 && k2)) := by
  have ha : fa γ = .ok (.val a, γ) := ha
  have hb : fb γ = .ok (.val b, γ) := hb
  have hc : fc γ = .ok (.val c, γ) := hc
  show eChain _ _ _ = _
  unfold eChain chN chL
  rw [ha, R.ok_bind]
  simp only [valOf, R.ok_bind, hb, e1, ofO]
  cases k1 with
  | false => rfl
  | true => simp only [hc, R.ok_bind, deref, e2 rfl, ofO, Bool.true_and]
theorem chain3 (ha : Pv fa γ a) (hb : Pv fb γ b) (hc : Pv fc γ c) (hd : Pv fd γ d) (e1 : F a b = some (.bl k1)) (e2 : k1 = true → G b c = some (.bl k2)) (e3 : k1 = true → k2 = true → H c d = some (.bl k3)) : Pv (eChain fa (chN F fb (chN G fc (chL H fd)))) γ (.bl (k1 && (k2 && k3))) := by
  have ha : fa γ = .ok (.val a, γ) := ha
  have hb : fb γ = .ok (.val b, γ) := hb
  have hc : fc γ = .ok (.val c, γ) := hc
  have hd : fd γ = .ok (.val d, γ) := hd
  show eChain _ _ _ = _
  unfold eChain chN chL
  rw [ha, R.ok_bind]
  simp only [valOf, R.ok_bind, hb, e1, ofO]
  cases k1 with
  | false => rfl
  | true =>
    simp only [hc, R.ok_bind, valOf, e2 rfl, ofO, Bool.true_and]
    cases k2 with
    | false => rfl
    | true => simp only [hd, R.ok_bind, deref, e3 rfl rfl, ofO, Bool.true_and]
end
theorem dLe_int {i j : Int} : dLe (.int i) (.int j) = some (.bl (decide (i ≤ j))) := rfl
theorem dLt_int {i j : Int} : dLt (.int i) (.int j) = some (.bl (decide (i < j))) := rfl
abbrev cond1 (i : Nat) : Ga → R (Bool × Ga) := tOr (tNot (toTr (eIsa .tuple (eVar i)))) (tOr (tNot (toT (eChain (eC (.int 2)) (chN dLe (eCall dLen (aCons (eVar i) (aNil))) (chL dLe (eC (.int 3))))))) (tNot (toTr (eIsa .str (eOp2 dIx (eVar i) (eC (.int 0)))))))
section
variable {γ : Ga} {i : Nat} {v : D}
theorem c1_not (h : γ[i]? = some (.pu v)) (e : dIsa v .tuple = some false) : Pb (cond1 i) γ true := Eb.or_yes (Eb.not (Eb.tr (isaE (Pv.var h) e) (k := false) rfl))
theorem c1_chain {xs : List D} (h : γ[i]? = some (.pu (.tup xs))) : Pv (eChain (eC (.int 2)) (chN dLe (eCall dLen (aCons (eVar i) (aNil))) (chL dLe (eC (.int 3))))) γ (.bl (decide (2 ≤ xs.length) && decide (xs.length ≤ 3))) := by
  have e1 : (decide ((2 : Int) ≤ (xs.length : Int))) = decide (2 ≤ xs.length) := by congr 1; simp; omega
  have e2 : (decide ((xs.length : Int) ≤ 3)) = decide (xs.length ≤ 3) := by congr 1; simp; omega
  rw [← e1, ← e2]
  exact chain2 Pv.c (Pv.call (.cons (.var h) .nil) (d := .int (xs.length : Int)) rfl) Pv.c dLe_int fun _ => dLe_int
theorem c1_len {xs : List D} (h : γ[i]? = some (.pu (.tup xs))) (e : (decide (2 ≤ xs.length) && decide (xs.length ≤ 3)) = false) : Pb (cond1 i) γ true := by
  have := c1_chain h
  rw [e] at this
  exact Eb.or_go (Eb.not (Eb.tr (isaE (Pv.var h) (k := true) rfl) (k := true) rfl)) (Eb.or_yes (Eb.not (Eb.t this)))
theorem c1_str {x : D} {xs : List D} {k : Bool} (h : γ[i]? = some (.pu (.tup (x :: xs)))) (e : (decide (2 ≤ (x :: xs).length) && decide ((x :: xs).length ≤ 3)) = true) (hx : dIsa x .str = some k) : Pb (cond1 i) γ (!k) := by
  have := c1_chain h
  rw [e] at this
  exact Eb.or_go (Eb.not (Eb.tr (isaE (Pv.var h) (k := true) rfl) (k := true) rfl)) (Eb.or_go (Eb.not (Eb.t this)) (Eb.not (Eb.tr (isaE (Ef.op2 (Pv.var h) Pv.c (d := x) (atI_zero (xs := x :: xs) rfl)) hx) (k := k) rfl)))
end
/-- whole -/
theorem whole_int (n : Int) : m_is_whole [.pu (.int n)] = .ok (.bl true, [.pu (.int n)]) ∧ m__law_is_whole [.pu (.int n)] = .ok (.bl true, [.pu (.int n)]) := ⟨by kernel_rfl, by kernel_rfl⟩
theorem whole_bl (b : Bool) : m_is_whole [.pu (.bl b)] = .ok (.bl false, [.pu (.bl b)]) ∧ m__law_is_whole [.pu (.bl b)] = .ok (.bl false, [.pu (.bl b)]) := ⟨by kernel_rfl, by kernel_rfl⟩
theorem whole_non : m_is_whole [.pu .non] = .ok (.bl false, [.pu .non]) ∧ m__law_is_whole [.pu .non] = .ok (.bl false, [.pu .non]) := ⟨by kernel_rfl, by kernel_rfl⟩
/-- what is looked at behind a paper's word -/
def At : D → Prop
  | .int _ => True
  | .bl _ => True
  | .non => True
  | _ => False
def isW : D → Bool
  | .int _ => true
  | _ => false
def isBad : D → Bool
  | .int n => decide (n < 0)
  | _ => true
theorem whole_at {x : D} (h : At x) : m_is_whole [.pu x] = .ok (.bl (isW x), [.pu x]) ∧ m__law_is_whole [.pu x] = .ok (.bl (isW x), [.pu x]) := by
  cases x with
  | int n => exact whole_int n
  | bl b => exact whole_bl b
  | non => exact whole_non
  | _ => exact h.elim
abbrev gK (w p : List Nat) (v : D) (fs : List (List Nat)) (x y : Sl) : Ga := [.pu (.str w), .pu (.str p), .pu v, .pu (.lst (fs.map .str)), x, y]
/-- the second look of kinds -/
theorem bad_ok {w p : List Nat} {fs : List (List Nat)} {x0 : D} {xs : List D} (hx : ∀ x ∈ xs, At x) (hl : xs.length ≤ 3) :
    Pb (toT (eOp2 dNe (toE (compL (iAnyV (eSl (eVar 2) (oSome (eC (.int 1))) oNone)) (bName 5) (tOr (tNot (toTr (eCallD 1 [] m__law_is_whole (aCons (eVar 5) (aNil))))) (toT (eOp2 dLt (eVar 5) (eC (.int 0))))) (eC (.int 1)) [5])) (toE (fLst (aNil))))) (gK w p (.tup (x0 :: xs)) fs .un .un) (!(xs.filter isBad).isEmpty) := by
  have e1 : compL (iAnyV (eSl (eVar 2) (oSome (eC (.int 1))) oNone)) (bName 5) (tOr (tNot (toTr (eCallD 1 [] m__law_is_whole (aCons (eVar 5) (aNil))))) (toT (eOp2 dLt (eVar 5) (eC (.int 0))))) (eC (.int 1)) [5] (gK w p (.tup (x0 :: xs)) fs .un .un) = .ok (.lst ((xs.filter isBad).map fun _ => D.int 1), gK w p (.tup (x0 :: xs)) fs .un .un) := by
    refine compL_pure (ds := xs) isBad (fun _ => .int 1) (Pi.any (d := .tup xs) (Ef.sl (Pv.var rfl) (.some Pv.c) .none ?_) rfl) (by rw [sizeLine_eq]; omega) rfl fun d hd => ?_
    · show some (D.tup (cutL (x0 :: xs) (some ((1 : Nat) : Int)) none)) = _
      rw [cut_i]; rfl
    · refine ⟨gK w p (.tup (x0 :: xs)) fs .un (.pu d), rfl, ?_, fun _ => rfl, rfl⟩
      have hw := Pv.callD (γ := gK w p (.tup (x0 :: xs)) fs .un (.pu d)) (as := [d]) (g := aCons (eVar 5) aNil) (.cons (.var rfl) .nil) rfl (whole_at (hx d hd)).2 (by simp)
      have hat := hx d hd
      cases d with
      | int n => exact Eb.or_go (Eb.not (Eb.tr hw (k := true) rfl)) (Eb.t (Ef.op2 (Pv.var rfl) Pv.c dLt_int))
      | bl b => exact Eb.or_yes (Eb.not (Eb.tr hw (k := false) rfl))
      | non => exact Eb.or_yes (Eb.not (Eb.tr hw (k := false) rfl))
      | _ => exact hat.elim
  have e2 : dNe (.lst ((xs.filter isBad).map fun _ => D.int 1)) (.lst []) = some (.bl (!(xs.filter isBad).isEmpty)) := by
    have := ne_nil ((xs.filter isBad).map fun _ => 1)
    unfold nums at this
    rw [List.map_map] at this
    rw [show ((xs.filter isBad).map fun _ => D.int 1) = (xs.filter isBad).map ((fun n : Nat => D.int n) ∘ fun _ => 1) from rfl, this]
    congr 2
    cases xs.filter isBad <;> rfl
  exact Eb.t (Ef.op2 (.toE e1) (.toE (fr_lst (as := []) .nil (by rw [sizeLine_eq]; simp))) e2)
end K89
end DL
end
section
set_option Elab.async false
set_option linter.all false
set_option maxRecDepth 100000
namespace DL
namespace K89
open PySem
theorem Rt.first {γ γ1 : Ga} {d : D} {h1 h2 : Ga → R (Fl × Ga)} (e : Rt h1 γ d γ1) : Rt (sCons h1 h2) γ d γ1 := by
  show sCons _ _ _ = _
  unfold sCons
  rw [e]; rfl
theorem two_lst {γ : Ga} {fa fb : Ga → R (Res × Ga)} {a b : D} (ha : Pv fa γ a) (hb : Pv fb γ b) : Pv (toE (fLst (aCons fa (aCons fb aNil)))) γ (.lst [a, b]) := .toE (fr_lst (.cons ha (.cons hb .nil)) (by rw [sizeLine_eq]; simp))
/-- both judge the value: kinds tell [x, y], the program x or y -/
structure Jd (w p : List Nat) (v : D) (x y : Bool) : Prop where
  k : m__law_kinds [.pu (.str w), .pu (.str p), .pu v] = .ok (.lst [.bl x, .bl y], [.pu (.str w), .pu (.str p), .pu v])
  j : m_is_presence_paper [.pu (.str w), .pu (.int 3), .pu (.str p), .pu v] = .ok (.bl (x || y), [.pu (.str w), .pu (.int 3), .pu (.str p), .pu v])
abbrev gJ (w p : List Nat) (v : D) : Ga := [.pu (.str w), .pu (.int 3), .pu (.str p), .pu v, .un, .un, .un]
section
variable {w p : List Nat} (hw : w.length ≤ 10) (hp : p.length ≤ 10) (hA : InAbc w) (hB : InAbc p)
include hw hp hA hB
theorem j_start (v : D) : Nx (sExpr (eCallD 3 [] m_need_all (aCons (eVar 0) (aCons (eVar 1) (aCons (eVar 2) (aNil)))))) (gJ w p v) (gJ w p v) :=
  Nx.expr (Pv.callD (as := [.str w, .int 3, .str p]) (.cons (.var rfl) (.cons (.var rfl) (.cons (.var rfl) .nil))) rfl (need_ok hw hp hA hB) (by simp))
theorem k_start (v : D) : ∃ fs, (∀ x, x ∈ fs ↔ Fac x w) ∧ Nx (sAsg (eCallD 1 [] m__law_factors (aCons (eVar 0) (aNil))) (bName 3)) [.pu (.str w), .pu (.str p), .pu v, .un, .un, .un] (gK w p v fs .un .un) := by
  obtain ⟨fs, h1, _, h2⟩ := factors_ok w hw
  exact ⟨fs, h1, Nx.asgE (Pv.callD (as := [.str w]) (.cons (.var rfl) .nil) rfl (show m__law_factors [.pu (.str w)] = _ from h2) (by simp)) rfl⟩
/-- a value that is no tuple of two or three, a text ahead -/
theorem j_none {v : D} (h : ∀ (γ : Ga) (i : Nat), γ[i]? = some (.pu v) → Pb (cond1 i) γ true) : Jd w p v false false := by
  obtain ⟨fs, _, s0⟩ := k_start hw hp hA hB v
  refine ⟨?_, ?_⟩
  · show mDef 3 3 h__law_kinds _ = _
    exact mDef_ret (γ := gK w p v fs .un .un) (.seq s0 (Rt.first ((sIf_yes (h (gK w p v fs .un .un) 2 rfl)).trans (Rt.ret (two_lst .c .c)))))
  · show mDef 4 3 h_is_presence_paper _ = _
    exact mDef_ret (γ := gJ w p v) (.seq (j_start hw hp hA hB v) (Rt.first ((sIf_yes (h (gJ w p v) 3 rfl)).trans (Rt.ret .c))))
/-- (text, a, ..): behind the first look -/
theorem k_go {s : List Nat} {xs : List D} (hl : xs.length = 1 ∨ xs.length = 2) : ∃ fs, (∀ x, x ∈ fs ↔ Fac x w) ∧ ∀ {h2 : Ga → R (Fl × Ga)} {d : D} {γ : Ga}, Rt h2 (gK w p (.tup (.str s :: xs)) fs .un .un) d γ →
    Rt (sCons (sAsg (eCallD 1 [] m__law_factors (aCons (eVar 0) (aNil))) (bName 3)) (sCons (sIf (cond1 2) (sRet (toE (fLst (aCons (eC (.bl false)) (aCons (eC (.bl false)) (aNil)))))) (sNil)) h2)) [.pu (.str w), .pu (.str p), .pu (.tup (.str s :: xs)), .un, .un, .un] d γ := by
  obtain ⟨fs, h1, s0⟩ := k_start hw hp hA hB (.tup (.str s :: xs))
  refine ⟨fs, h1, fun {h2 d γ} r => .seq s0 (.seq ?_ r)⟩
  exact (sIf_no (c1_str (γ := gK w p (.tup (.str s :: xs)) fs .un .un) (i := 2) (k := true) rfl (by rcases hl with h | h <;> simp [h]) rfl)).trans rfl
theorem j_go {s : List Nat} {xs : List D} (hl : xs.length = 1 ∨ xs.length = 2) {h2 : Ga → R (Fl × Ga)} {d : D} {γ : Ga} (r : Rt h2 (gJ w p (.tup (.str s :: xs))) d γ) :
    Rt (sCons (sExpr (eCallD 3 [] m_need_all (aCons (eVar 0) (aCons (eVar 1) (aCons (eVar 2) (aNil)))))) (sCons (sIf (cond1 3) (sRet (eC (.bl false))) (sNil)) h2)) (gJ w p (.tup (.str s :: xs))) d γ :=
  .seq (j_start hw hp hA hB _) (.seq ((sIf_no (c1_str (γ := gJ w p (.tup (.str s :: xs))) (i := 3) (k := true) rfl (by rcases hl with h | h <;> simp [h]) rfl)).trans rfl) r)
/-- a number that is none, or below 0 -/
theorem k_bad {s : List Nat} {xs : List D} (hl : xs.length = 1 ∨ xs.length = 2) (hx : ∀ x ∈ xs, At x) (hb : (xs.filter isBad).isEmpty = false) : m__law_kinds [.pu (.str w), .pu (.str p), .pu (.tup (.str s :: xs))] = .ok (.lst [.bl false, .bl false], [.pu (.str w), .pu (.str p), .pu (.tup (.str s :: xs))]) := by
  obtain ⟨fs, _, go⟩ := k_go hw hp hA hB (s := s) (xs := xs) hl
  have hbad := bad_ok (w := w) (p := p) (fs := fs) (x0 := .str s) hx (by omega)
  rw [hb] at hbad
  show mDef 3 3 h__law_kinds _ = _
  exact mDef_ret (γ := gK w p (.tup (.str s :: xs)) fs .un .un) (go (Rt.first ((sIf_yes hbad).trans (Rt.ret (two_lst .c .c)))))
end
end K89
end DL
end
section
set_option Elab.async false
set_option linter.all false
set_option maxRecDepth 100000
namespace DL
namespace K89
open PySem
section
variable {w p : List Nat} (hw : w.length ≤ 10) (hp : p.length ≤ 10) (hA : InAbc w) (hB : InAbc p)
/-- the place's look -/
def plOk (w p : List Nat) (n : Nat) : Bool := decide (n + p.length ≤ w.length) && decide ((w.take (n + p.length)).drop n = p)
theorem plOk_fac {n : Nat} (h : plOk w p n = true) : Fac p w := by
  unfold plOk at h
  simp only [Bool.and_eq_true, decide_eq_true_eq] at h
  exact fac_iff.mpr ⟨n, h.1, h.2⟩
theorem shows_bad {x : D} (h : At x) (hb : isBad x = true) : m_shows_place [.pu (.str w), .pu (.str p), .pu x] = .ok (.bl false, [.pu (.str w), .pu (.str p), .pu x]) := by
  have hwh := Pv.callD (γ := [.pu (.str w), .pu (.str p), .pu x]) (as := [x]) (g := aCons (eVar 2) aNil) (.cons (.var rfl) .nil) rfl (whole_at h).1 (by simp)
  show mDef 3 0 h_shows_place _ = _
  refine mDef_ret (γ := [.pu (.str w), .pu (.str p), .pu x]) (.ret ?_)
  cases x with
  | int n =>
    have hn : n < 0 := of_decide_eq_true hb
    refine Pv.and (k := true) (k2 := false) hwh fun _ => Pv.and (k := false) (k2 := false) ?_ (fun z => by cases z)
    have := chain2 (γ := [.pu (.str w), .pu (.str p), .pu (.int n)]) (fa := eC (.int 0)) (fb := eVar 2) (fc := eOp2 dSub (eCall dLen (aCons (eVar 0) (aNil))) (eCall dLen (aCons (eVar 1) (aNil)))) (F := dLe) (G := dLe) (k1 := false) (k2 := false) Pv.c (Pv.var rfl)
      (.op2 (Pv.call (.cons (.var rfl) .nil) (d := .int (w.length : Int)) rfl) (Pv.call (.cons (.var rfl) .nil) (d := .int (p.length : Int)) rfl) rfl) (by rw [dLe_int, decide_eq_false (by omega)]) (fun z => by cases z)
    exact this
  | bl b => exact Pv.and (k := false) (k2 := false) hwh (fun z => by cases z)
  | non => exact Pv.and (k := false) (k2 := false) hwh (fun z => by cases z)
  | _ => exact h.elim
theorem shows_nat (n : Nat) : m_shows_place [.pu (.str w), .pu (.str p), .pu (.int n)] = .ok (.bl (plOk w p n), [.pu (.str w), .pu (.str p), .pu (.int n)]) := by
  have hwh := Pv.callD (γ := [.pu (.str w), .pu (.str p), .pu (.int (n : Int))]) (as := [.int (n : Int)]) (g := aCons (eVar 2) aNil) (.cons (.var rfl) .nil) rfl (whole_int n).1 (by simp)
  show mDef 3 0 h_shows_place _ = _
  refine mDef_ret (γ := [.pu (.str w), .pu (.str p), .pu (.int n)]) (.ret ?_)
  have e1 : plOk w p n = (true && (decide (n + p.length ≤ w.length) && decide ((w.take (n + p.length)).drop n = p))) := rfl
  rw [e1]
  refine Pv.and hwh fun _ => Pv.and ?_ fun _ => Ef.op2 (.sl (Pv.var rfl) (.some (Pv.var rfl)) (.some (.op2 (Pv.var rfl) (Pv.call (.cons (.var rfl) .nil) (d := .int (p.length : Int)) rfl) (d := .int ((n + p.length : Nat) : Int)) rfl)) (dSl_ij w n (n + p.length))) (Pv.var rfl) eq_dec
  have e2 : decide (n + p.length ≤ w.length) = (decide ((0 : Int) ≤ (n : Int)) && decide ((n : Int) ≤ (w.length : Int) - (p.length : Int))) := by
    rw [decide_eq_true (show (0 : Int) ≤ (n : Int) by omega), Bool.true_and]
    by_cases h : n + p.length ≤ w.length
    · rw [decide_eq_true h, decide_eq_true (by omega)]
    · rw [decide_eq_false h, decide_eq_false (by omega)]
  rw [e2]
  exact chain2 Pv.c (Pv.var rfl) (.op2 (Pv.call (.cons (.var rfl) .nil) (d := .int (w.length : Int)) rfl) (Pv.call (.cons (.var rfl) .nil) (d := .int (p.length : Int)) rfl) rfl) dLe_int fun _ => dLe_int
include hw hp hA hB
theorem j_at {xs : List D} (hl : xs.length = 1 ∨ xs.length = 2) {k : Bool} (h : Pv (eAnd (eOp2 dEq (eCall dLen (aCons (eVar 3) (aNil))) (eC (.int 2))) (eCallD 3 [] m_shows_place (aCons (eVar 0) (aCons (eVar 2) (aCons (eOp2 dIx (eVar 3) (eC (.int 1))) (aNil)))))) (gJ w p (.tup (.str AT :: xs))) (.bl k)) :
    m_is_presence_paper [.pu (.str w), .pu (.int 3), .pu (.str p), .pu (.tup (.str AT :: xs))] = .ok (.bl k, [.pu (.str w), .pu (.int 3), .pu (.str p), .pu (.tup (.str AT :: xs))]) := by
  show mDef 4 3 h_is_presence_paper _ = _
  refine mDef_ret (γ := gJ w p (.tup (.str AT :: xs))) (j_go hw hp hA hB hl (Rt.first ((sIf_yes (Eb.t (Ef.op2 (Ef.op2 (Pv.var rfl) Pv.c (d := .str AT) (atI_zero (xs := .str AT :: xs) rfl)) Pv.c (d := .bl true) rfl))).trans (Rt.ret h))))
theorem k_at {xs : List D} (hl : xs.length = 1 ∨ xs.length = 2) (hx : ∀ x ∈ xs, At x) (hb : (xs.filter isBad).isEmpty = true) {k : Bool} (h : ∀ fs, Pv (eAnd (eOp2 dEq (eCall dLen (aCons (eVar 2) (aNil))) (eC (.int 2))) (eAnd (eOp2 dLe (eOp2 dAdd (eOp2 dIx (eVar 2) (eC (.int 1))) (eCall dLen (aCons (eVar 1) (aNil)))) (eCall dLen (aCons (eVar 0) (aNil)))) (eOp2 dEq (eSl (eVar 0) (oSome (eOp2 dIx (eVar 2) (eC (.int 1)))) (oSome (eOp2 dAdd (eOp2 dIx (eVar 2) (eC (.int 1))) (eCall dLen (aCons (eVar 1) (aNil)))))) (eVar 1)))) (gK w p (.tup (.str AT :: xs)) fs .un .un) (.bl k)) :
    m__law_kinds [.pu (.str w), .pu (.str p), .pu (.tup (.str AT :: xs))] = .ok (.lst [.bl k, .bl false], [.pu (.str w), .pu (.str p), .pu (.tup (.str AT :: xs))]) := by
  obtain ⟨fs, _, go⟩ := k_go hw hp hA hB (s := AT) (xs := xs) hl
  have hbad := bad_ok (w := w) (p := p) (fs := fs) (x0 := .str AT) hx (by omega)
  rw [hb] at hbad
  show mDef 3 3 h__law_kinds _ = _
  exact mDef_ret (γ := gK w p (.tup (.str AT :: xs)) fs .un .un) (go (.seq ((sIf_no hbad).trans rfl) (Rt.first ((sIf_yes (Eb.t (Ef.op2 (Ef.op2 (Pv.var rfl) Pv.c (d := .str AT) (atI_zero (xs := .str AT :: xs) rfl)) Pv.c (d := .bl true) rfl))).trans (Rt.ret (two_lst (h fs) .c))))))
/-- ("at", x) -/
theorem at_one {x : D} (hx : At x) : ∃ a : Bool, Jd w p (.tup [.str AT, x]) a false ∧ (a = true → Fac p w) := by
  have hx' : ∀ y ∈ [x], At y := fun y hy => by rw [List.mem_singleton.mp hy]; exact hx
  by_cases hb : isBad x = true
  · refine ⟨false, ⟨k_bad hw hp hA hB (.inl rfl) hx' (by simp [hb]), j_at hw hp hA hB (.inl rfl) (Pv.and (k := true) (k2 := false) (.op2 (Pv.call (.cons (.var rfl) .nil) (d := .int 2) rfl) Pv.c rfl) fun _ => Pv.callD (as := [.str w, .str p, x]) (.cons (.var rfl) (.cons (.var rfl) (.cons (.op2 (Pv.var rfl) Pv.c rfl) .nil))) rfl (shows_bad hx hb) (by simp))⟩, fun z => by cases z⟩
  · cases x with
    | int n =>
      have hn : ¬ n < 0 := fun z => hb (decide_eq_true z)
      obtain ⟨m, rfl⟩ : ∃ m : Nat, n = (m : Int) := ⟨n.toNat, by omega⟩
      refine ⟨plOk w p m, ⟨?_, ?_⟩, plOk_fac⟩
      · refine k_at hw hp hA hB (.inl rfl) hx' (by simp [hb]) fun fs => ?_
        have e1 : plOk w p m = (true && (decide ((m : Int) + (p.length : Int) ≤ (w.length : Int)) && decide ((w.take (m + p.length)).drop m = p))) := by
          unfold plOk
          rw [Bool.true_and]
          congr 1
          by_cases h : m + p.length ≤ w.length
          · rw [decide_eq_true h, decide_eq_true (by omega)]
          · rw [decide_eq_false h, decide_eq_false (by omega)]
        rw [e1]
        refine Pv.and (.op2 (Pv.call (.cons (.var rfl) .nil) (d := .int 2) rfl) Pv.c rfl) fun _ => Pv.and (.op2 (.op2 (.op2 (Pv.var rfl) Pv.c (d := .int (m : Int)) rfl) (Pv.call (.cons (.var rfl) .nil) (d := .int (p.length : Int)) rfl) rfl) (Pv.call (.cons (.var rfl) .nil) (d := .int (w.length : Int)) rfl) dLe_int) fun _ => ?_
        exact Ef.op2 (.sl (Pv.var rfl) (.some (.op2 (Pv.var rfl) Pv.c (d := .int (m : Int)) rfl)) (.some (.op2 (.op2 (Pv.var rfl) Pv.c (d := .int (m : Int)) rfl) (Pv.call (.cons (.var rfl) .nil) (d := .int (p.length : Int)) rfl) (d := .int ((m + p.length : Nat) : Int)) rfl)) (dSl_ij w m (m + p.length))) (Pv.var rfl) eq_dec
      · rw [Bool.or_false]
        have e1 : plOk w p m = (true && plOk w p m) := rfl
        rw [e1]
        exact j_at hw hp hA hB (.inl rfl) (Pv.and (.op2 (Pv.call (.cons (.var rfl) .nil) (d := .int 2) rfl) Pv.c rfl) fun _ => Pv.callD (as := [.str w, .str p, .int (m : Int)]) (.cons (.var rfl) (.cons (.var rfl) (.cons (.op2 (Pv.var rfl) Pv.c rfl) .nil))) rfl (shows_nat m) (by simp))
    | bl b => exact absurd rfl hb
    | non => exact absurd rfl hb
    | _ => exact hx.elim
/-- ("at", x, y) -/
theorem at_two {x y : D} (hx : At x) (hy : At y) : Jd w p (.tup [.str AT, x, y]) false false := by
  have hxy : ∀ z ∈ [x, y], At z := fun z hz => by
    simp only [List.mem_cons, List.not_mem_nil, or_false] at hz
    rcases hz with rfl | rfl
    · exact hx
    · exact hy
  refine ⟨?_, j_at hw hp hA hB (.inr rfl) (Pv.and (k := false) (k2 := false) (.op2 (Pv.call (.cons (.var rfl) .nil) (d := .int 3) rfl) Pv.c rfl) fun z => by cases z)⟩
  cases hb : ([x, y].filter isBad).isEmpty with
  | false => exact k_bad hw hp hA hB (.inr rfl) hxy hb
  | true => exact k_at hw hp hA hB (.inr rfl) hxy hb fun fs => Pv.and (k := false) (k2 := false) (.op2 (Pv.call (.cons (.var rfl) .nil) (d := .int 3) rfl) Pv.c rfl) fun z => by cases z
end
end K89
end DL
end
section
set_option Elab.async false
set_option linter.all false
set_option maxRecDepth 100000
namespace DL
namespace K89
open PySem
section
variable {w p : List Nat} (hw : w.length ≤ 10) (hp : p.length ≤ 10) (hA : InAbc w) (hB : InAbc p)
include hw hp hA hB
abbrev jS3 : Ga → R (Bool × Ga) := tOr (toT (eOp2 dNe (eOp2 dIx (eVar 3) (eC (.int 0))) (eC (.str ABS)))) (tOr (toT (eOp2 dNe (eCall dLen (aCons (eVar 3) (aNil))) (eC (.int 3)))) (tNot (toTr (eCall dAll (aCons (toE (compL (iAnyV (eSl (eVar 3) (oSome (eC (.int 1))) oNone)) (bName 6) (tYesG) (eCallD 1 [] m_is_whole (aCons (eVar 6) (aNil))) [6])) (aNil))))))
theorem j_abs {xs : List D} (hl : xs.length = 1 ∨ xs.length = 2) {h2 : Ga → R (Fl × Ga)} {d : D} {γ : Ga} (r : Rt h2 (gJ w p (.tup (.str ABS :: xs))) d γ) :
    Rt (sCons (sExpr (eCallD 3 [] m_need_all (aCons (eVar 0) (aCons (eVar 1) (aCons (eVar 2) (aNil)))))) (sCons (sIf (cond1 3) (sRet (eC (.bl false))) (sNil)) (sCons (sIf (toT (eOp2 dEq (eOp2 dIx (eVar 3) (eC (.int 0))) (eC (.str AT)))) (sRet (eAnd (eOp2 dEq (eCall dLen (aCons (eVar 3) (aNil))) (eC (.int 2))) (eCallD 3 [] m_shows_place (aCons (eVar 0) (aCons (eVar 2) (aCons (eOp2 dIx (eVar 3) (eC (.int 1))) (aNil))))))) (sNil)) h2))) (gJ w p (.tup (.str ABS :: xs))) d γ :=
  j_go hw hp hA hB hl (.seq ((sIf_no (Eb.t (Ef.op2 (Ef.op2 (Pv.var rfl) Pv.c (d := .str ABS) (atI_zero (xs := .str ABS :: xs) rfl)) Pv.c (d := .bl false) rfl))).trans rfl) r)
theorem j_abs_no {xs : List D} (hl : xs.length = 1 ∨ xs.length = 2) (h : Pb jS3 (gJ w p (.tup (.str ABS :: xs))) true) : m_is_presence_paper [.pu (.str w), .pu (.int 3), .pu (.str p), .pu (.tup (.str ABS :: xs))] = .ok (.bl false, [.pu (.str w), .pu (.int 3), .pu (.str p), .pu (.tup (.str ABS :: xs))]) := by
  show mDef 4 3 h_is_presence_paper _ = _
  exact mDef_ret (γ := gJ w p (.tup (.str ABS :: xs))) (j_abs hw hp hA hB hl (Rt.first ((sIf_yes h).trans (Rt.ret .c))))
theorem j_all {x y : D} (hx : At x) (hy : At y) : Pb jS3 (gJ w p (.tup [.str ABS, x, y])) (!(isW x && isW y)) := by
  have e1 : compL (iAnyV (eSl (eVar 3) (oSome (eC (.int 1))) oNone)) (bName 6) (tYesG) (eCallD 1 [] m_is_whole (aCons (eVar 6) (aNil))) [6] (gJ w p (.tup [.str ABS, x, y])) = .ok (.lst ([isW x, isW y].map .bl), gJ w p (.tup [.str ABS, x, y])) := by
    have := compL_pure (γ := gJ w p (.tup [.str ABS, x, y])) (fi := iAnyV (eSl (eVar 3) (oSome (eC (.int 1))) oNone)) (b := bName 6) (ft := tYesG) (fe := eCallD 1 [] m_is_whole (aCons (eVar 6) (aNil))) (vs := [6]) (ds := [x, y]) (fun _ => true) (fun d => .bl (isW d)) (Pi.any (d := .tup [x, y]) (Ef.sl (Pv.var rfl) (.some Pv.c) .none rfl) rfl) (by rw [sizeLine_eq]; simp) rfl (fun d hd => by
      refine ⟨[.pu (.str w), .pu (.int 3), .pu (.str p), .pu (.tup [.str ABS, x, y]), .un, .un, .pu d], rfl, rfl, fun _ => ?_, rfl⟩
      have hd' : At d := by
        simp only [List.mem_cons, List.not_mem_nil, or_false] at hd
        rcases hd with rfl | rfl
        · exact hx
        · exact hy
      exact Pv.callD (as := [d]) (.cons (.var rfl) .nil) rfl (whole_at hd').1 (by simp))
    exact this
  have e2 := all_bls [isW x, isW y]
  have e3 : [isW x, isW y].all id = (isW x && isW y) := by simp
  rw [e3] at e2
  exact Eb.or_go (Eb.t (Ef.op2 (Ef.op2 (Pv.var rfl) Pv.c (d := .str ABS) rfl) Pv.c (d := .bl false) rfl)) (Eb.or_go (Eb.t (Ef.op2 (Pv.call (.cons (.var rfl) .nil) (d := .int 3) rfl) Pv.c (d := .bl false) rfl)) (Eb.not (Eb.tr (Pv.call (.cons (.toE e1) .nil) e2) rfl)))
abbrev kS4 : Ga → R (Bool × Ga) := tOr (toT (eOp2 dNe (eOp2 dIx (eVar 2) (eC (.int 0))) (eC (.str ABS)))) (tOr (toT (eOp2 dNe (eCall dLen (aCons (eVar 2) (aNil))) (eC (.int 3)))) (tNot (toT (eChain (eOp2 dIx (eVar 2) (eC (.int 1))) (chN dLt (eOp2 dIx (eVar 2) (eC (.int 2))) (chL dLe (eCall dLen (aCons (eVar 1) (aNil)))))))))
theorem k_abs_no {xs : List D} (hl : xs.length = 1 ∨ xs.length = 2) (hx : ∀ x ∈ xs, At x) (h : ∀ fs, (xs.filter isBad).isEmpty = true → Pb kS4 (gK w p (.tup (.str ABS :: xs)) fs .un .un) true) : m__law_kinds [.pu (.str w), .pu (.str p), .pu (.tup (.str ABS :: xs))] = .ok (.lst [.bl false, .bl false], [.pu (.str w), .pu (.str p), .pu (.tup (.str ABS :: xs))]) := by
  cases hb : (xs.filter isBad).isEmpty with
  | false => exact k_bad hw hp hA hB hl hx hb
  | true =>
    obtain ⟨fs, _, go⟩ := k_go hw hp hA hB (s := ABS) (xs := xs) hl
    have hbad := bad_ok (w := w) (p := p) (fs := fs) (x0 := .str ABS) hx (by omega)
    rw [hb] at hbad
    show mDef 3 3 h__law_kinds _ = _
    exact mDef_ret (γ := gK w p (.tup (.str ABS :: xs)) fs .un .un) (go (.seq ((sIf_no hbad).trans rfl) (.seq ((sIf_no (Eb.t (Ef.op2 (Ef.op2 (Pv.var rfl) Pv.c (d := .str ABS) (atI_zero (xs := .str ABS :: xs) rfl)) Pv.c (d := .bl false) rfl))).trans rfl) (Rt.first ((sIf_yes (h fs hb)).trans (Rt.ret (two_lst .c .c)))))))
theorem abs_one {x : D} (hx : At x) : Jd w p (.tup [.str ABS, x]) false false :=
  ⟨k_abs_no hw hp hA hB (.inl rfl) (fun y hy => by rw [List.mem_singleton.mp hy]; exact hx) fun fs _ => Eb.or_go (Eb.t (Ef.op2 (Ef.op2 (Pv.var rfl) Pv.c (d := .str ABS) rfl) Pv.c (d := .bl false) rfl)) (Eb.or_yes (Eb.t (Ef.op2 (Pv.call (.cons (.var rfl) .nil) (d := .int 2) rfl) Pv.c (d := .bl true) rfl))),
   j_abs_no hw hp hA hB (.inl rfl) (Eb.or_go (Eb.t (Ef.op2 (Ef.op2 (Pv.var rfl) Pv.c (d := .str ABS) rfl) Pv.c (d := .bl false) rfl)) (Eb.or_yes (Eb.t (Ef.op2 (Pv.call (.cons (.var rfl) .nil) (d := .int 2) rfl) Pv.c (d := .bl true) rfl))))⟩
/-- ("absent", x, y), one of them no number -/
theorem abs_bad {x y : D} (hx : At x) (hy : At y) (hb : (isW x && isW y) = false) : Jd w p (.tup [.str ABS, x, y]) false false := by
  have hxy : ∀ z ∈ [x, y], At z := fun z hz => by
    simp only [List.mem_cons, List.not_mem_nil, or_false] at hz
    rcases hz with rfl | rfl
    · exact hx
    · exact hy
  have hj := j_all hw hp hA hB hx hy
  rw [hb] at hj
  refine ⟨k_bad hw hp hA hB (.inr rfl) hxy ?_, j_abs_no hw hp hA hB (.inr rfl) hj⟩
  have hW : ∀ z, isW z = false → isBad z = true := fun z h => by cases z <;> first | rfl | cases h
  cases hx1 : isW x with
  | false => simp [hW x hx1]
  | true =>
    rw [hx1] at hb
    have : isW y = false := by simpa using hb
    cases h2 : isBad x <;> simp [h2, hW y this]
/-- a least absent word -/
def lsOk (w p : List Nat) (i j : Nat) : Bool := decide (i < j) && decide (j ≤ p.length) && (decide (¬ Fac ((p.take j).drop i) w) && (decide (Fac (((p.take j).drop i).drop 1) w) && decide (Fac (((p.take j).drop i).take (((p.take j).drop i).length - 1)) w)))
theorem lsOk_fac {i j : Nat} (h : lsOk w p i j = true) : ¬ Fac p w := by
  unfold lsOk at h
  simp only [Bool.and_eq_true, decide_eq_true_eq] at h
  exact fun f => h.2.1 ((Fac.sl p i j).trans f)
theorem least_is (q : List Nat) : m_is_least_absent [.pu (.str w), .pu (.str q)] = .ok (.bl (decide (¬ Fac q w) && (decide (Fac (q.drop 1) w) && decide (Fac (q.take (q.length - 1)) w))), [.pu (.str w), .pu (.str q)]) := by
  show mDef 2 0 h_is_least_absent _ = _
  exact mDef_ret (γ := [.pu (.str w), .pu (.str q)]) (.ret (Pv.and (.op2 (Pv.var rfl) (Pv.var rfl) notMem_fac) fun _ => Pv.and (Ef.op2 (.sl (Pv.var rfl) (.some Pv.c) .none (dSl_i q 1)) (Pv.var rfl) mem_fac) fun _ => Ef.op2 (.sl (Pv.var rfl) .none (.some (Ef.op1 Pv.c (d := .int (-1)) rfl)) (dSl_m1 q)) (Pv.var rfl) mem_fac))
end
end K89
end DL
end
section
set_option Elab.async false
set_option linter.all false
set_option maxRecDepth 100000
namespace DL
namespace K89
open PySem
theorem plains_strs : ∀ (fs : List (List Nat)) (k : Nat), D.plains k (fs.map .str) = true
  | [], k => by simp [D.plains]
  | n :: ns, k => by
    have := plains_strs ns k
    simp only [List.map_cons, D.plains, this, Bool.and_true]
    cases k <;> simp [D.plain]
theorem any_strs (x : List Nat) : ∀ (fs : List (List Nat)), (fs.map D.str).any (fun y => D.eqb y (.str x)) = decide (x ∈ fs)
  | [] => by simp
  | f :: fs => by
    have := any_strs x fs
    simp only [List.map_cons, List.any_cons, this, D.eqb]
    by_cases h : f = x
    · subst h; simp
    · rw [beq_eq_false_iff_ne.mpr h, Bool.false_or]
      congr 1
      simp only [List.mem_cons, eq_iff_iff]
      exact ⟨fun z => .inr z, fun z => z.elim (fun e => absurd e.symm h) id⟩
theorem inB_list (x : List Nat) (fs : List (List Nat)) : dKey (.str x) (.lst (fs.map .str)) = some (decide (x ∈ fs)) := by
  show (if D.plain deepest (.str x) && D.plains deepest (fs.map .str) then some ((fs.map D.str).any fun y => D.eqb y (.str x)) else none) = _
  rw [plains_strs, any_strs, show D.plain deepest (.str x) = true from by simp [D.plain]]
  rfl
theorem mem_list {x w : List Nat} {fs : List (List Nat)} (h : ∀ x, x ∈ fs ↔ Fac x w) : dMem (.str x) (.lst (fs.map .str)) = some (.bl (decide (Fac x w))) := by
  unfold dMem
  rw [inB_list]
  show some (D.bl (decide (x ∈ fs))) = _
  rw [decide_eq_decide.mpr (h x)]
theorem notMem_list {x w : List Nat} {fs : List (List Nat)} (h : ∀ x, x ∈ fs ↔ Fac x w) : dNotMem (.str x) (.lst (fs.map .str)) = some (.bl (decide (¬ Fac x w))) := by
  unfold dNotMem
  rw [inB_list]
  show some (D.bl (!(decide (x ∈ fs)))) = _
  rw [decide_eq_decide.mpr (h x), decide_not]
section
variable {w p : List Nat} (hw : w.length ≤ 10) (hp : p.length ≤ 10) (hA : InAbc w) (hB : InAbc p)
include hw hp hA hB
theorem abs_nat (i j : Nat) : Jd w p (.tup [.str ABS, .int i, .int j]) false (lsOk w p i j) := by
  have hxy : ∀ z ∈ [D.int (i : Int), D.int (j : Int)], At z := fun z hz => by
    simp only [List.mem_cons, List.not_mem_nil, or_false] at hz
    rcases hz with rfl | rfl <;> exact True.intro
  have hb : ([D.int (i : Int), D.int (j : Int)].filter isBad).isEmpty = true := by
    have h1 : isBad (D.int (i : Int)) = false := by show decide ((i : Int) < 0) = false; exact decide_eq_false (by omega)
    have h2 : isBad (D.int (j : Int)) = false := by show decide ((j : Int) < 0) = false; exact decide_eq_false (by omega)
    simp [h1, h2]
  obtain ⟨fs, hfs, go⟩ := k_go hw hp hA hB (s := ABS) (xs := [.int i, .int j]) (.inr rfl)
  have hbad := bad_ok (w := w) (p := p) (fs := fs) (x0 := .str ABS) hxy (by simp)
  rw [hb] at hbad
  have hk4 : Pb kS4 (gK w p (.tup [.str ABS, .int i, .int j]) fs .un .un) (!(decide (i < j) && decide (j ≤ p.length))) := by
    have e1 : decide (i < j) = decide ((i : Int) < (j : Int)) := decide_eq_decide.mpr (by omega)
    have e2 : decide (j ≤ p.length) = decide ((j : Int) ≤ (p.length : Int)) := decide_eq_decide.mpr (by omega)
    rw [e1, e2]
    exact Eb.or_go (Eb.t (Ef.op2 (Ef.op2 (Pv.var rfl) Pv.c (d := .str ABS) rfl) Pv.c (d := .bl false) rfl)) (Eb.or_go (Eb.t (Ef.op2 (Pv.call (.cons (.var rfl) .nil) (d := .int 3) rfl) Pv.c (d := .bl false) rfl))
      (Eb.not (Eb.t (chain2 (.op2 (Pv.var rfl) Pv.c (d := .int (i : Int)) rfl) (.op2 (Pv.var rfl) Pv.c (d := .int (j : Int)) rfl) (Pv.call (.cons (.var rfl) .nil) (d := .int (p.length : Int)) rfl) dLt_int fun _ => dLe_int))))
  have hs3 : Nx (sIf (toT (eOp2 dEq (eOp2 dIx (eVar 2) (eC (.int 0))) (eC (.str AT)))) (sRet (toE (fLst (aCons (eAnd (eOp2 dEq (eCall dLen (aCons (eVar 2) (aNil))) (eC (.int 2))) (eAnd (eOp2 dLe (eOp2 dAdd (eOp2 dIx (eVar 2) (eC (.int 1))) (eCall dLen (aCons (eVar 1) (aNil)))) (eCall dLen (aCons (eVar 0) (aNil)))) (eOp2 dEq (eSl (eVar 0) (oSome (eOp2 dIx (eVar 2) (eC (.int 1)))) (oSome (eOp2 dAdd (eOp2 dIx (eVar 2) (eC (.int 1))) (eCall dLen (aCons (eVar 1) (aNil)))))) (eVar 1)))) (aCons (eC (.bl false)) (aNil)))))) (sNil)) (gK w p (.tup [.str ABS, .int i, .int j]) fs .un .un) (gK w p (.tup [.str ABS, .int i, .int j]) fs .un .un) :=
    (sIf_no (Eb.t (Ef.op2 (Ef.op2 (Pv.var rfl) Pv.c (d := .str ABS) rfl) Pv.c (d := .bl false) rfl))).trans rfl
  refine ⟨?_, ?_⟩
  · cases hc : (decide (i < j) && decide (j ≤ p.length)) with
    | false =>
      have e0 : lsOk w p i j = false := by unfold lsOk; rw [hc]; rfl
      rw [hc] at hk4
      rw [e0]
      show mDef 3 3 h__law_kinds _ = _
      exact mDef_ret (γ := gK w p (.tup [.str ABS, .int i, .int j]) fs .un .un) (go (.seq ((sIf_no hbad).trans rfl) (.seq hs3 (Rt.first ((sIf_yes hk4).trans (Rt.ret (two_lst .c .c)))))))
    | true =>
      have e0 : lsOk w p i j = (decide (¬ Fac ((p.take j).drop i) w) && (decide (Fac (((p.take j).drop i).drop 1) w) && decide (Fac (((p.take j).drop i).take (((p.take j).drop i).length - 1)) w))) := by unfold lsOk; rw [hc]; rfl
      rw [hc] at hk4
      rw [e0]
      show mDef 3 3 h__law_kinds _ = _
      refine mDef_ret (γ := gK w p (.tup [.str ABS, .int i, .int j]) fs (.pu (.str ((p.take j).drop i))) .un) (go (.seq ((sIf_no hbad).trans rfl) (.seq hs3 (.seq ((sIf_no hk4).trans rfl) (.seq (Nx.asgE (.sl (Pv.var rfl) (.some (.op2 (Pv.var rfl) Pv.c (d := .int (i : Int)) rfl)) (.some (.op2 (Pv.var rfl) Pv.c (d := .int (j : Int)) rfl)) (dSl_ij p i j)) rfl) (Rt.ret (two_lst .c ?_)))))))
      exact Pv.and (.op2 (Pv.var rfl) (Pv.var rfl) (notMem_list hfs)) fun _ => Pv.and (Ef.op2 (.sl (Pv.var rfl) (.some Pv.c) .none (dSl_i _ 1)) (Pv.var rfl) (mem_list hfs)) fun _ => Ef.op2 (.sl (Pv.var rfl) .none (.some (Ef.op1 Pv.c (d := .int (-1)) rfl)) (dSl_m1 _)) (Pv.var rfl) (mem_list hfs)
  · have hj := j_all hw hp hA hB (x := .int i) (y := .int j) True.intro True.intro
    rw [Bool.false_or]
    show mDef 4 3 h_is_presence_paper _ = _
    refine mDef_ret (γ := [.pu (.str w), .pu (.int 3), .pu (.str p), .pu (.tup [.str ABS, .int i, .int j]), .pu (.int i), .pu (.int j), .un]) (j_abs hw hp hA hB (.inr rfl) (.seq ((sIf_no hj).trans rfl) (.seq (Nx.asgE (Ef.sl (Pv.var rfl) (.some Pv.c) .none (d := .tup [.int i, .int j]) rfl) rfl) (Rt.ret ?_))))
    have e1 : (decide (i < j) && decide (j ≤ p.length)) = (decide ((0 : Int) ≤ (i : Int)) && (decide ((i : Int) < (j : Int)) && decide ((j : Int) ≤ (p.length : Int)))) := by
      rw [decide_eq_true (show (0 : Int) ≤ (i : Int) by omega), Bool.true_and, decide_eq_decide.mpr (show i < j ↔ (i : Int) < (j : Int) by omega), decide_eq_decide.mpr (show j ≤ p.length ↔ (j : Int) ≤ (p.length : Int) by omega)]
    unfold lsOk
    rw [e1]
    exact Pv.and (chain3 Pv.c (Pv.var rfl) (Pv.var rfl) (Pv.call (.cons (.var rfl) .nil) (d := .int (p.length : Int)) rfl) dLe_int (fun _ => dLt_int) fun _ _ => dLe_int) fun _ =>
      Pv.callD (as := [.str w, .str ((p.take j).drop i)]) (.cons (.var rfl) (.cons (Ef.sl (Pv.var rfl) (.some (Pv.var rfl)) (.some (Pv.var rfl)) (dSl_ij p i j)) .nil)) rfl (least_is hw hp hA hB _) (by simp)
end
end K89
end DL
end
section
set_option Elab.async false
set_option linter.all false
set_option maxRecDepth 100000
namespace DL
namespace K89
open PySem
section
variable {w p : List Nat} (hw : w.length ≤ 10) (hp : p.length ≤ 10) (hA : InAbc w) (hB : InAbc p)
include hw hp hA hB
theorem at_nat (m : Nat) : Jd w p (.tup [.str AT, .int m]) (plOk w p m) false := by
  have hx' : ∀ y ∈ [D.int (m : Int)], At y := fun y hy => by rw [List.mem_singleton.mp hy]; exact True.intro
  have hb : isBad (D.int (m : Int)) = false := by show decide ((m : Int) < 0) = false; exact decide_eq_false (by omega)
  refine ⟨?_, ?_⟩
  · refine k_at hw hp hA hB (.inl rfl) hx' (by simp [hb]) fun fs => ?_
    have e1 : plOk w p m = (true && (decide ((m : Int) + (p.length : Int) ≤ (w.length : Int)) && decide ((w.take (m + p.length)).drop m = p))) := by
      unfold plOk
      rw [Bool.true_and]
      congr 1
      exact decide_eq_decide.mpr (by omega)
    rw [e1]
    refine Pv.and (.op2 (Pv.call (.cons (.var rfl) .nil) (d := .int 2) rfl) Pv.c rfl) fun _ => Pv.and (.op2 (.op2 (.op2 (Pv.var rfl) Pv.c (d := .int (m : Int)) rfl) (Pv.call (.cons (.var rfl) .nil) (d := .int (p.length : Int)) rfl) rfl) (Pv.call (.cons (.var rfl) .nil) (d := .int (w.length : Int)) rfl) dLe_int) fun _ => ?_
    exact Ef.op2 (.sl (Pv.var rfl) (.some (.op2 (Pv.var rfl) Pv.c (d := .int (m : Int)) rfl)) (.some (.op2 (.op2 (Pv.var rfl) Pv.c (d := .int (m : Int)) rfl) (Pv.call (.cons (.var rfl) .nil) (d := .int (p.length : Int)) rfl) (d := .int ((m + p.length : Nat) : Int)) rfl)) (dSl_ij w m (m + p.length))) (Pv.var rfl) eq_dec
  · rw [Bool.or_false]
    have e1 : plOk w p m = (true && plOk w p m) := rfl
    rw [e1]
    exact j_at hw hp hA hB (.inl rfl) (Pv.and (.op2 (Pv.call (.cons (.var rfl) .nil) (d := .int 2) rfl) Pv.c rfl) fun _ => Pv.callD (as := [.str w, .str p, .int (m : Int)]) (.cons (.var rfl) (.cons (.var rfl) (.cons (.op2 (Pv.var rfl) Pv.c rfl) .nil))) rfl (shows_nat m) (by simp))
/-- a value that is judged rightly -/
def VJ (w p : List Nat) (v : D) : Prop := ∃ x y : Bool, Jd w p v x y ∧ (x = true → Fac p w) ∧ (y = true → ¬ Fac p w)
theorem vj_no {v : D} (h : Jd w p v false false) : VJ w p v := ⟨false, false, h, (fun z => by cases z), fun z => by cases z⟩
theorem vj_at {x : D} (hx : At x) : VJ w p (.tup [.str AT, x]) := by
  obtain ⟨a, h1, h2⟩ := at_one hw hp hA hB hx
  exact ⟨a, false, h1, h2, fun z => by cases z⟩
theorem vj_abs (i j : Nat) : VJ w p (.tup [.str ABS, .int i, .int j]) := ⟨false, _, abs_nat hw hp hA hB i j, (fun z => by cases z), lsOk_fac hw hp hA hB⟩
theorem vj_not {v : D} (h : dIsa v .tuple = some false) : VJ w p v := vj_no hw hp hA hB (j_none hw hp hA hB fun γ i e => c1_not e h)
theorem vj_len {xs : List D} (h : (decide (2 ≤ xs.length) && decide (xs.length ≤ 3)) = false) : VJ w p (.tup xs) := vj_no hw hp hA hB (j_none hw hp hA hB fun γ i e => c1_len e h)
theorem vj_str {x : D} {xs : List D} (h : (decide (2 ≤ (x :: xs).length) && decide ((x :: xs).length ≤ 3)) = true) (hx : dIsa x .str = some false) : VJ w p (.tup (x :: xs)) := vj_no hw hp hA hB (j_none hw hp hA hB fun γ i e => c1_str e h hx)
end
/-- the further values -/
abbrev more (n : Int) : List D := [.non, .tup [], .int 0, .str AT, .dct false [] [], .tup [.str AT, .non], .tup [.str AT, .bl true], .tup [.str ABS, .int 0], .tup [.str ABS, .non, .int 1], .tup [.str ABS, .int 0, .bl true], .tup [.str AT, .int n], .tup [.str AT, .int 0, .int 0]]
abbrev around (ps : List D) : List D := [.tup ps, .lst ps, .tup (ps.take 1), .tup (ps ++ [.int 0]), .tup ps.reverse]
section
variable {w p : List Nat} (hw : w.length ≤ 10) (hp : p.length ≤ 10) (hA : InAbc w) (hB : InAbc p)
include hw hp hA hB
theorem more_ok : ∀ v ∈ more (w.length : Int), VJ w p v := by
  intro v hv
  simp only [List.mem_cons, List.not_mem_nil, or_false] at hv
  rcases hv with rfl | rfl | rfl | rfl | rfl | rfl | rfl | rfl | rfl | rfl | rfl | rfl
  · exact vj_not hw hp hA hB rfl
  · exact vj_len hw hp hA hB rfl
  · exact vj_not hw hp hA hB rfl
  · exact vj_not hw hp hA hB rfl
  · exact vj_not hw hp hA hB rfl
  · exact vj_at hw hp hA hB True.intro
  · exact vj_at hw hp hA hB True.intro
  · exact vj_no hw hp hA hB (abs_one hw hp hA hB True.intro)
  · exact vj_no hw hp hA hB (abs_bad hw hp hA hB True.intro True.intro rfl)
  · exact vj_no hw hp hA hB (abs_bad hw hp hA hB True.intro True.intro rfl)
  · exact vj_at hw hp hA hB True.intro
  · exact vj_no hw hp hA hB (at_two hw hp hA hB True.intro True.intro)
theorem around_at (i : Nat) : ∀ v ∈ around [.str AT, .int i], VJ w p v := by
  intro v hv
  simp only [List.mem_cons, List.not_mem_nil, or_false] at hv
  rcases hv with rfl | rfl | rfl | rfl | rfl
  · exact vj_at hw hp hA hB True.intro
  · exact vj_not hw hp hA hB rfl
  · exact vj_len hw hp hA hB rfl
  · exact vj_no hw hp hA hB (at_two hw hp hA hB True.intro True.intro)
  · exact vj_str hw hp hA hB rfl rfl
theorem around_abs (b e : Nat) : ∀ v ∈ around [.str ABS, .int b, .int e], VJ w p v := by
  intro v hv
  simp only [List.mem_cons, List.not_mem_nil, or_false] at hv
  rcases hv with rfl | rfl | rfl | rfl | rfl
  · exact vj_abs hw hp hA hB b e
  · exact vj_not hw hp hA hB rfl
  · exact vj_len hw hp hA hB rfl
  · exact vj_len hw hp hA hB rfl
  · exact vj_str hw hp hA hB rfl rfl
/-- the paper: what it is, how it is judged -/
theorem paper_all : ∃ ps : List D, ps.length ≤ 3 ∧ m_presence_paper [.pu (.str w), .pu (.int 3), .pu (.str p)] = .ok (.tup ps, [.pu (.str w), .pu (.int 3), .pu (.str p)]) ∧
    m__law_kinds [.pu (.str w), .pu (.str p), .pu (.tup ps)] = .ok (.lst [.bl (decide (Fac p w)), .bl (!decide (Fac p w))], [.pu (.str w), .pu (.str p), .pu (.tup ps)]) ∧ ∀ v ∈ around ps, VJ w p v := by
  rcases paper_ok hw hp hA hB with ⟨i, h1, h2, h3, h4⟩ | ⟨b, e, h1, h2, h3, h4, h5, h6, h7⟩
  · refine ⟨[.str AT, .int i], by simp, h4, ?_, around_at hw hp hA hB i⟩
    have hk : plOk w p i = true := by unfold plOk; rw [decide_eq_true h2, decide_eq_true h3]; rfl
    have := (at_nat hw hp hA hB i).k
    rw [hk] at this
    rw [decide_eq_true h1]; exact this
  · refine ⟨[.str ABS, .int b, .int e], by simp, h7, ?_, around_abs hw hp hA hB b e⟩
    have hl : ((p.take e).drop b).length = e - b := by simp; omega
    have f1 : Fac (((p.take e).drop b).drop 1) w := by
      rw [List.drop_drop]
      by_cases z : b + 1 < e
      · exact h5 (b + 1) (by omega) z
      · rw [List.drop_eq_nil_of_le (by simp; omega)]; exact Fac.nil w
    have f2 : Fac (((p.take e).drop b).take (((p.take e).drop b).length - 1)) w := by
      rw [hl]
      have e1 : ((p.take e).drop b).take (e - b - 1) = (p.take (e - 1)).drop b := by
        rw [List.drop_take, List.take_take, List.drop_take]
        congr 1
        omega
      rw [e1]
      exact (Fac.drop _ b).trans (h6 (e - 1) (by omega))
    have hk : lsOk w p b e = true := by
      unfold lsOk
      rw [decide_eq_true h2, decide_eq_true h3, decide_eq_true h4, decide_eq_true f1, decide_eq_true f2]; rfl
    have := (abs_nat hw hp hA hB b e).k
    rw [hk] at this
    rw [decide_eq_false h1]; exact this
end
end K89
end DL
end
section
set_option Elab.async false
set_option linter.all false
set_option maxRecDepth 100000
namespace DL
namespace K89
open PySem
abbrev gR (bg : Sl) (w p : List Nat) (k : Bool) (P : D) (z5 z6 z7 z8 : Sl) : Ga := [bg, .pu (.str w), .pu (.str p), .pu (.bl k), .pu P, z5, z6, z7, z8, .un, .un]
abbrev rLoop : Ga → R (Fl × Ga) := sCons (sAsg (eCallD 3 [] m__law_kinds (aCons (eVar 1) (aCons (eVar 2) (aCons (eVar 7) (aNil))))) (bName 8))
  (sIf (tOr (toT (eOp2 dNe (eCall dRepr (aCons (eCallD 4 [] m_is_presence_paper (aCons (eVar 1) (aCons (eC (.int 3)) (aCons (eVar 2) (aCons (eVar 7) (aNil)))))) (aNil))) (eCall dRepr (aCons (eOp2 dMem (eC (.bl true)) (eVar 8)) (aNil))))) (toT (eOp2 dEq (eVar 8) (toE (fLst (aCons (eNot (eVar 3)) (aCons (eVar 3) (aNil)))))))) (sRet (eC (.bl false))) (sNil))
section
variable {w p : List Nat}
theorem turn_ok {bg z5 z6 z8 : Sl} {P v : D} (h : VJ w p v) : ∃ z8', Nx rLoop (gR bg w p (decide (Fac p w)) P z5 z6 (.pu v) z8) (gR bg w p (decide (Fac p w)) P z5 z6 (.pu v) z8') := by
  obtain ⟨x, y, hj, h1, h2⟩ := h
  refine ⟨.pu (.lst [.bl x, .bl y]), ?_⟩
  obtain ⟨k, hk⟩ : ∃ k, k = decide (Fac p w) := ⟨_, rfl⟩
  have g1 : x = true → k = true := fun z => by rw [hk]; exact decide_eq_true (h1 z)
  have g2 : y = true → k = false := fun z => by rw [hk]; exact decide_eq_false (h2 z)
  rw [← hk]
  have e0 : Nx (sAsg (eCallD 3 [] m__law_kinds (aCons (eVar 1) (aCons (eVar 2) (aCons (eVar 7) (aNil))))) (bName 8)) (gR bg w p k P z5 z6 (.pu v) z8) (gR bg w p k P z5 z6 (.pu v) (.pu (.lst [.bl x, .bl y]))) :=
    Nx.asgE (Pv.callD (as := [.str w, .str p, v]) (.cons (.var rfl) (.cons (.var rfl) (.cons (.var rfl) .nil))) rfl hj.k (by simp)) rfl
  have eR : ∀ b : Bool, ∃ s, dRepr [.bl b] = some (.str s) := fun b => by cases b <;> exact ⟨_, rfl⟩
  obtain ⟨s, hs⟩ := eR (x || y)
  have hm : dMem (.bl true) (.lst [.bl x, .bl y]) = some (.bl (x || y)) := by cases x <;> cases y <;> rfl
  have e1 : Pb (toT (eOp2 dNe (eCall dRepr (aCons (eCallD 4 [] m_is_presence_paper (aCons (eVar 1) (aCons (eC (.int 3)) (aCons (eVar 2) (aCons (eVar 7) (aNil)))))) (aNil))) (eCall dRepr (aCons (eOp2 dMem (eC (.bl true)) (eVar 8)) (aNil))))) (gR bg w p k P z5 z6 (.pu v) (.pu (.lst [.bl x, .bl y]))) false := by
    refine Eb.t (Ef.op2 (Pv.call (.cons (Pv.callD (as := [.str w, .int 3, .str p, v]) (.cons (.var rfl) (.cons .c (.cons (.var rfl) (.cons (.var rfl) .nil)))) rfl hj.j (by simp)) .nil) hs) (Pv.call (.cons (.op2 Pv.c (Pv.var rfl) hm) .nil) hs) ?_)
    rw [dNe_str]; simp
  have e2 : Pb (toT (eOp2 dEq (eVar 8) (toE (fLst (aCons (eNot (eVar 3)) (aCons (eVar 3) (aNil))))))) (gR bg w p k P z5 z6 (.pu v) (.pu (.lst [.bl x, .bl y]))) false := by
    refine Eb.t (Ef.op2 (Pv.var rfl) (two_lst (Pv.not (Pv.var rfl)) (Pv.var rfl)) ?_)
    cases x <;> cases y <;> cases k <;> first | rfl | exact absurd (g1 rfl) (by simp) | exact absurd (g2 rfl) (by simp)
  exact .seq e0 ((sIf_no (Eb.or_go e1 e2)).trans rfl)
theorem loop_ok {bg z5 z6 : Sl} {P : D} : ∀ (vs : List D) (z7 z8 : Sl), (∀ v ∈ vs, VJ w p v) → ∃ z7' z8', loopF (bName 7) rLoop vs (gR bg w p (decide (Fac p w)) P z5 z6 z7 z8) = .ok (.next, gR bg w p (decide (Fac p w)) P z5 z6 z7' z8')
  | [], z7, z8, _ => ⟨z7, z8, rfl⟩
  | v :: vs, z7, z8, h => by
    obtain ⟨z8', e1⟩ := turn_ok (bg := bg) (z5 := z5) (z6 := z6) (P := P) (z8 := z8) (h v List.mem_cons_self)
    obtain ⟨y7, y8, e2⟩ := loop_ok vs (.pu v) z8' fun x hx => h x (List.mem_cons_of_mem _ hx)
    exact ⟨y7, y8, (loop_cons (γ1 := gR bg w p (decide (Fac p w)) P z5 z6 (.pu v) z8) rfl e1).trans e2⟩
abbrev rExt : Ga → R (Fl × Ga) := sExpr (eMutV "list" 5 mExtend (aCons (toE (compL (iRange rangeD1 (aCons (eOp2 dAdd (eCall dLen (aCons (eVar 2) (aNil))) (eC (.int 2))) (aNil))) (bName 10) (tYesG) (eTup (aCons (eC (.str ABS)) (aCons (eVar 6) (aCons (eVar 10) (aNil))))) [10])) (aNil)))
theorem ext_ok {bg z7 z8 : Sl} {P : D} (hp : p.length ≤ 10) (vs : List D) (hv : vs.length < 100000) (i : Nat) {k : Bool} :
    Nx rExt (gR bg w p k P (.mu (.lst vs)) (.pu (.int i)) z7 z8) (gR bg w p k P (.mu (.lst (vs ++ (List.range (p.length + 2)).map fun j : Nat => D.tup [.str ABS, .int i, .int j]))) (.pu (.int i)) z7 z8) := by
  have e1 : compL (iRange rangeD1 (aCons (eOp2 dAdd (eCall dLen (aCons (eVar 2) (aNil))) (eC (.int 2))) (aNil))) (bName 10) (tYesG) (eTup (aCons (eC (.str ABS)) (aCons (eVar 6) (aCons (eVar 10) (aNil))))) [10] (gR bg w p k P (.mu (.lst vs)) (.pu (.int i)) z7 z8) = .ok (.lst ((List.range (p.length + 2)).map fun j : Nat => D.tup [.str ABS, .int i, .int j]), gR bg w p k P (.mu (.lst vs)) (.pu (.int i)) z7 z8) := by
    have := compL_pure (γ := gR bg w p k P (.mu (.lst vs)) (.pu (.int i)) z7 z8) (fi := iRange rangeD1 (aCons (eOp2 dAdd (eCall dLen (aCons (eVar 2) (aNil))) (eC (.int 2))) (aNil))) (b := bName 10) (ft := tYesG) (fe := eTup (aCons (eC (.str ABS)) (aCons (eVar 6) (aCons (eVar 10) (aNil))))) (vs := [10]) (ds := (List.range (p.length + 2)).map fun j : Nat => D.int j) (fun _ => true) (fun d => D.tup [.str ABS, .int i, d])
      (Ir.range (.cons (.op2 (Pv.call (.cons (.var rfl) .nil) (d := .int (p.length : Int)) rfl) Pv.c (d := .int ((p.length + 2 : Nat) : Int)) rfl) .nil) (by rw [rng_of _ (by omega), rng_nat])) (by rw [sizeLine_eq]; simp; omega) rfl (fun d hd => ⟨[bg, .pu (.str w), .pu (.str p), .pu (.bl k), .pu P, .mu (.lst vs), .pu (.int i), z7, z8, .un, .pu d], rfl, rfl, fun _ => Pv.tup (.cons .c (.cons (.var rfl) (.cons (.var rfl) .nil))) (by rw [sizeLine_eq]; simp), rfl⟩)
    rw [List.filter_eq_self.mpr fun _ _ => rfl, List.map_map] at this
    exact this
  show sExpr _ _ = _
  unfold sExpr eMutV
  rw [show muAt (gR bg w p k P (.mu (.lst vs)) (.pu (.int i)) z7 z8) 5 = .ok (.lst vs) from rfl, R.ok_bind]
  rw [if_pos (show (D.lst vs).ty = "list" from rfl)]
  rw [show aCons (toE (compL (iRange rangeD1 (aCons (eOp2 dAdd (eCall dLen (aCons (eVar 2) (aNil))) (eC (.int 2))) (aNil))) (bName 10) (tYesG) (eTup (aCons (eC (.str ABS)) (aCons (eVar 6) (aCons (eVar 10) (aNil))))) [10])) (aNil) (gR bg w p k P (.mu (.lst vs)) (.pu (.int i)) z7 z8) = .ok ([Res.val (.lst ((List.range (p.length + 2)).map fun j : Nat => D.tup [.str ABS, .int i, .int j]))], gR bg w p k P (.mu (.lst vs)) (.pu (.int i)) z7 z8) from Pas.cons (Pv.toE e1) .nil, R.ok_bind]
  simp only
  rw [show muAt (gR bg w p k P (.mu (.lst vs)) (.pu (.int i)) z7 z8) 5 = .ok (.lst vs) from rfl, R.ok_bind]
  simp only [vals, R.ok_bind]
  rw [show mExtend (.lst vs) [.lst ((List.range (p.length + 2)).map fun j : Nat => D.tup [.str ABS, .int i, .int j])] = some (.non, .lst (vs ++ (List.range (p.length + 2)).map fun j : Nat => D.tup [.str ABS, .int i, .int j])) from if_pos (by rw [sizeLine_eq]; simp; omega)]
  rfl
end
end K89
end DL
end
section
set_option Elab.async false
set_option linter.all false
set_option maxRecDepth 100000
namespace DL
namespace K89
open PySem
theorem exts_ok {w p : List Nat} (hw : w.length ≤ 10) (hp : p.length ≤ 10) (hA : InAbc w) (hB : InAbc p) {bg z7 z8 : Sl} {P : D} {k : Bool} : ∀ (is : List Nat) (vs : List D) (z6 : Sl), vs.length + is.length * 12 < 100000 → (∀ v ∈ vs, VJ w p v) →
    ∃ vs' z6', loopF (bName 6) rExt (is.map fun i : Nat => D.int i) (gR bg w p k P (.mu (.lst vs)) z6 z7 z8) = .ok (.next, gR bg w p k P (.mu (.lst vs')) z6' z7 z8) ∧ ∀ v ∈ vs', VJ w p v
  | [], vs, z6, _, h => ⟨vs, z6, rfl, h⟩
  | i :: is, vs, z6, hl, h => by
    rw [List.length_cons] at hl
    have e1 := ext_ok (bg := bg) (w := w) (P := P) (z7 := z7) (z8 := z8) (k := k) hp vs (by omega) i
    obtain ⟨vs', z6', e2, h2⟩ := exts_ok hw hp hA hB (bg := bg) (P := P) (z7 := z7) (z8 := z8) (k := k) is (vs ++ (List.range (p.length + 2)).map fun j : Nat => D.tup [.str ABS, .int i, .int j]) (.pu (.int i)) (by simp; omega) (fun v hv => by
      rcases List.mem_append.mp hv with hv | hv
      · exact h v hv
      · obtain ⟨j, _, rfl⟩ := List.mem_map.mp hv
        exact vj_abs hw hp hA hB i j)
    exact ⟨vs', z6', (loop_cons (γ1 := gR bg w p k P (.mu (.lst vs)) (.pu (.int i)) z7 z8) rfl e1).trans e2, h2⟩
theorem right_ok : RightOk m__law_right := by
  intro a b c
  obtain ⟨w, a1, b1, c1, hw, hA, e1⟩ := drawn (most := 10) (by decide) (a := a) (b := b) (c := c)
  obtain ⟨p, a2, b2, c2, hp, hB, e2⟩ := part_ok hw hA (a := a1) (b := b1) (c := c1)
  obtain ⟨ps, hps, e3, e4, h4⟩ := paper_all hw hp hA hB
  obtain ⟨fs, hfs, _, ef⟩ := factors_ok w hw
  refine ⟨a2, b2, c2, ?_⟩
  obtain ⟨k, hk⟩ : ∃ k, k = decide (Fac p w) := ⟨_, rfl⟩
  rw [← hk] at e4
  have s0 : Nx (sAsg (eCallD 2 [0] m__law_drawn_word (aCons (eVar 0) (aCons (eC (.int 10)) (aNil)))) (bName 1)) [Bg a b c, .un, .un, .un, .un, .un, .un, .un, .un, .un, .un] [Bg a1 b1 c1, .pu (.str w), .un, .un, .un, .un, .un, .un, .un, .un, .un] :=
    Nx.asgE (bag_at (γ := [Bg a b c, .un, .un, .un, .un, .un, .un, .un, .un, .un, .un]) rfl Pv.c e1) rfl
  have s1 : Nx (sAsg (eCallD 2 [0] m__law_part (aCons (eVar 0) (aCons (eVar 1) (aNil)))) (bName 2)) [Bg a1 b1 c1, .pu (.str w), .un, .un, .un, .un, .un, .un, .un, .un, .un] [Bg a2 b2 c2, .pu (.str w), .pu (.str p), .un, .un, .un, .un, .un, .un, .un, .un] :=
    Nx.asgE (bag_at (γ := [Bg a1 b1 c1, .pu (.str w), .un, .un, .un, .un, .un, .un, .un, .un, .un]) rfl (Pv.var rfl) e2) rfl
  have s2 : Nx (sPar2 3 4 (pVal (eOp2 dMem (eVar 2) (eCallD 1 [] m__law_factors (aCons (eVar 1) (aNil)))) (pVal (eCallD 3 [] m_presence_paper (aCons (eVar 1) (aCons (eC (.int 3)) (aCons (eVar 2) (aNil))))) (pNil)))) [Bg a2 b2 c2, .pu (.str w), .pu (.str p), .un, .un, .un, .un, .un, .un, .un, .un] (gR (Bg a2 b2 c2) w p k (.tup ps) .un .un .un .un) := by
    have q1 : Pv (eOp2 dMem (eVar 2) (eCallD 1 [] m__law_factors (aCons (eVar 1) (aNil)))) [Bg a2 b2 c2, .pu (.str w), .pu (.str p), .un, .un, .un, .un, .un, .un, .un, .un] (.bl k) := by
      rw [hk]
      exact .op2 (Pv.var rfl) (Pv.callD (as := [.str w]) (.cons (.var rfl) .nil) rfl (show m__law_factors [.pu (.str w)] = _ from ef) (by simp)) (mem_list hfs)
    have q2 : Pv (eCallD 3 [] m_presence_paper (aCons (eVar 1) (aCons (eC (.int 3)) (aCons (eVar 2) (aNil))))) [Bg a2 b2 c2, .pu (.str w), .pu (.str p), .un, .un, .un, .un, .un, .un, .un, .un] (.tup ps) := Pv.callD (as := [.str w, .int 3, .str p]) (.cons (.var rfl) (.cons .c (.cons (.var rfl) .nil))) rfl e3 (by simp)
    show sPar2 _ _ _ _ = _
    unfold sPar2 pVal
    rw [q1, R.ok_bind]
    simp only [valOf, R.ok_bind]
    rw [q2, R.ok_bind]
    rfl
  have s3 : Nx (sIf (toT (eOp2 dNe (eCallD 3 [] m__law_kinds (aCons (eVar 1) (aCons (eVar 2) (aCons (eVar 4) (aNil))))) (toE (fLst (aCons (eVar 3) (aCons (eNot (eVar 3)) (aNil))))))) (sRet (eC (.bl false))) (sNil)) (gR (Bg a2 b2 c2) w p k (.tup ps) .un .un .un .un) (gR (Bg a2 b2 c2) w p k (.tup ps) .un .un .un .un) :=
    (sIf_no (Eb.t (Ef.op2 (Pv.callD (as := [.str w, .str p, .tup ps]) (.cons (.var rfl) (.cons (.var rfl) (.cons (.var rfl) .nil))) rfl e4 (by simp)) (two_lst (Pv.var rfl) (Pv.not (Pv.var rfl))) (d := .bl false) (by cases k <;> rfl)))).trans rfl
  have z1 : (1 : Nat) ≤ sizeLine := by rw [sizeLine_eq]; decide
  have z2 : (2 : Nat) ≤ sizeLine := by rw [sizeLine_eq]; decide
  have z3 : (3 : Nat) ≤ sizeLine := by rw [sizeLine_eq]; decide
  let L := around ps ++ more (w.length : Int)
  have hL : ∀ v ∈ L, VJ w p v := fun v hv => by
    rcases List.mem_append.mp hv with hv | hv
    · exact h4 v hv
    · exact more_ok hw hp hA hB v hv
  have s4 : Nx (sNew 5 (fLst (aCons (eVar 4) (aCons (toE (fCall dList (aCons (eVar 4) (aNil)))) (aCons (eSl (eVar 4) oNone (oSome (eC (.int 1)))) (aCons (eOp2 dAdd (eVar 4) (eTup (aCons (eC (.int 0)) (aNil)))) (aCons (eOp1 dRev (eVar 4)) (aCons (eC .non) (aCons (eTup (aNil)) (aCons (eC (.int 0)) (aCons (eC (.str [97, 116])) (aCons (toE (fDNewK)) (aCons (eTup (aCons (eC (.str [97, 116])) (aCons (eC .non) (aNil)))) (aCons (eTup (aCons (eC (.str [97, 116])) (aCons (eC (.bl true)) (aNil)))) (aCons (eTup (aCons (eC (.str [97, 98, 115, 101, 110, 116])) (aCons (eC (.int 0)) (aNil)))) (aCons (eTup (aCons (eC (.str [97, 98, 115, 101, 110, 116])) (aCons (eC .non) (aCons (eC (.int 1)) (aNil))))) (aCons (eTup (aCons (eC (.str [97, 98, 115, 101, 110, 116])) (aCons (eC (.int 0)) (aCons (eC (.bl true)) (aNil))))) (aCons (eTup (aCons (eC (.str [97, 116])) (aCons (eCall dLen (aCons (eVar 1) (aNil))) (aNil)))) (aCons (eTup (aCons (eC (.str [97, 116])) (aCons (eC (.int 0)) (aCons (eC (.int 0)) (aNil))))) (aNil))))))))))))))))))))
      (gR (Bg a2 b2 c2) w p k (.tup ps) .un .un .un .un) (gR (Bg a2 b2 c2) w p k (.tup ps) (.mu (.lst L)) .un .un .un) := by
    have hsl : dSl (.tup ps) none (some ((1 : Nat) : Int)) = some (.tup (ps.take 1)) := by
      show some (D.tup (cutL ps none (some ((1 : Nat) : Int)))) = _
      rw [cut_j]
    have had : dAdd (.tup ps) (.tup [.int 0]) = some (.tup (ps ++ [.int 0])) := by
      show (if ps.length + 1 ≤ sizeLine then some (D.tup (ps ++ [.int 0])) else none) = _
      rw [if_pos (by rw [sizeLine_eq]; omega)]
    refine Nx.new (fr_lst (as := L) ?_ (by show (17 : Nat) ≤ sizeLine; rw [sizeLine_eq]; decide))
    exact .cons (.var rfl) (.cons (.toE (fr_call (.cons (Pv.var rfl).r .nil) rfl)) (.cons (Ef.sl (Pv.var rfl) .none (.some Pv.c) hsl) (.cons (.op2 (.var rfl) (.tup (.cons .c .nil) z1) had) (.cons (.op1 (.var rfl) rfl) (.cons .c (.cons (.tup .nil (Nat.zero_le _)) (.cons .c (.cons .c (.cons rfl
      (.cons (.tup (.cons .c (.cons .c .nil)) z2) (.cons (.tup (.cons .c (.cons .c .nil)) z2) (.cons (.tup (.cons .c (.cons .c .nil)) z2) (.cons (.tup (.cons .c (.cons .c (.cons .c .nil))) z3) (.cons (.tup (.cons .c (.cons .c (.cons .c .nil))) z3)
      (.cons (.tup (.cons .c (.cons (Pv.call (.cons (.var rfl) .nil) rfl) .nil)) z2) (.cons (.tup (.cons .c (.cons .c (.cons .c .nil))) z3) .nil))))))))))))))))
  obtain ⟨n, hn⟩ : ∃ n, n = (((w.length : Int) + 2) - (-1)).toNat := ⟨_, rfl⟩
  have er2 : rangeD2 [.int (-1), .int ((w.length : Int) + 2)] = some (rng (-1) n) := by
    have h1 : okI (-1) = true := by decide
    have h2 : okI ((w.length : Int) + 2) = true := by unfold okI; simp only [Bool.and_eq_true, decide_eq_true_eq]; omega
    unfold rangeD2
    simp only [h1, h2, Bool.and_self, if_true, hn]
  have hrl : (rng (-1) n).length = n := by simp [rng]
  let ats := (rng (-1) n).map fun d => D.tup [.str AT, d]
  have hats : ∀ v ∈ ats, VJ w p v := fun v hv => by
    obtain ⟨d, hd, rfl⟩ := List.mem_map.mp hv
    obtain ⟨i, _, rfl⟩ := List.mem_map.mp hd
    exact vj_at hw hp hA hB True.intro
  have e5 : compL (iRange rangeD2 (aCons (eOp1 dNeg (eC (.int 1))) (aCons (eOp2 dAdd (eCall dLen (aCons (eVar 1) (aNil))) (eC (.int 2))) (aNil)))) (bName 9) (tYesG) (eTup (aCons (eC (.str [97, 116])) (aCons (eVar 9) (aNil)))) [9] (gR (Bg a2 b2 c2) w p k (.tup ps) (.mu (.lst L)) .un .un .un) = .ok (.lst ats, gR (Bg a2 b2 c2) w p k (.tup ps) (.mu (.lst L)) .un .un .un) := by
    have := compL_pure (γ := gR (Bg a2 b2 c2) w p k (.tup ps) (.mu (.lst L)) .un .un .un) (fi := iRange rangeD2 (aCons (eOp1 dNeg (eC (.int 1))) (aCons (eOp2 dAdd (eCall dLen (aCons (eVar 1) (aNil))) (eC (.int 2))) (aNil)))) (b := bName 9) (ft := tYesG) (fe := eTup (aCons (eC (.str [97, 116])) (aCons (eVar 9) (aNil)))) (vs := [9]) (ds := rng (-1) n) (fun _ => true) (fun d => D.tup [.str AT, d])
      (Ir.range (.cons (Ef.op1 Pv.c (d := .int (-1)) rfl) (.cons (.op2 (Pv.call (.cons (.var rfl) .nil) (d := .int (w.length : Int)) rfl) Pv.c (d := .int ((w.length : Int) + 2)) rfl) .nil)) er2) (by rw [sizeLine_eq, hrl]; omega) rfl (fun d hd => ⟨[Bg a2 b2 c2, .pu (.str w), .pu (.str p), .pu (.bl k), .pu (.tup ps), .mu (.lst L), .un, .un, .un, .pu d, .un], rfl, rfl, fun _ => Pv.tup (.cons .c (.cons (.var rfl) .nil)) z2, rfl⟩)
    rw [List.filter_eq_self.mpr fun _ _ => rfl] at this
    exact this
  have hlats : ats.length = n := by simp [ats, hrl]
  have hlL : L.length = 17 := rfl
  have s5 : Nx (sNew 5 (fOp2 dAddL (eVar 5) (toE (compL (iRange rangeD2 (aCons (eOp1 dNeg (eC (.int 1))) (aCons (eOp2 dAdd (eCall dLen (aCons (eVar 1) (aNil))) (eC (.int 2))) (aNil)))) (bName 9) (tYesG) (eTup (aCons (eC (.str [97, 116])) (aCons (eVar 9) (aNil)))) [9])))) (gR (Bg a2 b2 c2) w p k (.tup ps) (.mu (.lst L)) .un .un .un) (gR (Bg a2 b2 c2) w p k (.tup ps) (.mu (.lst (L ++ ats))) .un .un .un) := by
    refine Nx.new (d := .lst (L ++ ats)) (γ := gR (Bg a2 b2 c2) w p k (.tup ps) (.mu (.lst L)) .un .un .un) ?_
    have had : dAddL (.lst L) (.lst ats) = some (.lst (L ++ ats)) := by
      show (if L.length + ats.length ≤ sizeLine then some (D.lst (L ++ ats)) else none) = _
      rw [if_pos (by rw [sizeLine_eq, hlats, hlL]; omega)]
    unfold fOp2
    rw [show eVar 5 (gR (Bg a2 b2 c2) w p k (.tup ps) (.mu (.lst L)) .un .un .un) = .ok (.cell 5, gR (Bg a2 b2 c2) w p k (.tup ps) (.mu (.lst L)) .un .un .un) from rfl, R.ok_bind]
    rw [show toE _ (gR (Bg a2 b2 c2) w p k (.tup ps) (.mu (.lst L)) .un .un .un) = .ok (.val (.lst ats), gR (Bg a2 b2 c2) w p k (.tup ps) (.mu (.lst L)) .un .un .un) from Pv.toE e5, R.ok_bind]
    rw [show deref (gR (Bg a2 b2 c2) w p k (.tup ps) (.mu (.lst L)) .un .un .un) (.cell 5) = .ok (.lst L) from rfl, R.ok_bind]
    simp only [deref, R.ok_bind, had, ofO]
  obtain ⟨vs, z6, e6, h6⟩ := exts_ok hw hp hA hB (bg := Bg a2 b2 c2) (P := .tup ps) (z7 := .un) (z8 := .un) (k := k) (List.range (p.length + 1)) (L ++ ats) .un (by rw [List.length_append, hlats, hlL, List.length_range]; omega) (fun v hv => by
    rcases List.mem_append.mp hv with hv | hv
    · exact hL v hv
    · exact hats v hv)
  have er6 : iRange rangeD1 (aCons (eOp2 dAdd (eCall dLen (aCons (eVar 2) (aNil))) (eC (.int 1))) (aNil)) (gR (Bg a2 b2 c2) w p k (.tup ps) (.mu (.lst (L ++ ats))) .un .un .un) = .ok ((List.range (p.length + 1)).map fun i : Nat => D.int i, gR (Bg a2 b2 c2) w p k (.tup ps) (.mu (.lst (L ++ ats))) .un .un .un) :=
    Ir.range (.cons (.op2 (Pv.call (.cons (.var rfl) .nil) (d := .int (p.length : Int)) rfl) Pv.c (d := .int ((p.length + 1 : Nat) : Int)) rfl) .nil) (by rw [rng_of _ (by omega), rng_nat])
  obtain ⟨z7, z8, e7⟩ := loop_ok (w := w) (p := p) (bg := Bg a2 b2 c2) (z5 := .pu (.lst vs)) (z6 := z6) (P := .tup ps) vs .un .un h6
  rw [← hk] at e7
  have er7 : iAnyV (eFz 5) (gR (Bg a2 b2 c2) w p k (.tup ps) (.mu (.lst vs)) z6 .un .un) = .ok (vs, gR (Bg a2 b2 c2) w p k (.tup ps) (.pu (.lst vs)) z6 .un .un) := rfl
  show mDef 1 10 h__law_right _ = _
  exact mDef_ret (γ := gR (Bg a2 b2 c2) w p k (.tup ps) (.pu (.lst vs)) z6 z7 z8) (.seq s0 (.seq s1 (.seq s2 (.seq s3 (.seq s4 (.seq s5 (.seq ((sFor_of er6).trans e6) (.seq ((sFor_of er7).trans e7) (.ret .c)))))))))
end K89
end DL
end
section
set_option Elab.async false
set_option linter.all false
set_option maxRecDepth 100000
namespace DL
/-- so many turns at each spot -/
abbrev hTurn (mr : List Sl → R (D × List Sl)) : Ga → R (Fl × Ga) := sIf (tNot (toTr (eCallD 1 [0] mr (aCons (eVar 2) (aNil))))) (sRet (eC (.bl false))) (sNil)
abbrev hMany (t : Nat) (mb mr : List Sl → R (D × List Sl)) : Ga → R (Fl × Ga) := sCons (sNew 2 (fBag mb)) (sFor (iRange rangeD1 (aCons (eC (.int t)) (aNil))) (bName 3) (hTurn mr))
theorem turnI {mr : List Sl → R (D × List Sl)} (hr : RightOk mr) {x s z : Sl} {rest : Ga} {a b c : Int} : ∃ a' b' c', Nx (hTurn mr) (x :: s :: Bg a b c :: z :: rest) (x :: s :: Bg a' b' c' :: z :: rest) := by
  obtain ⟨a', b', c', e⟩ := right_call hr (i := 2) (γ := x :: s :: Bg a b c :: z :: rest) rfl
  refine ⟨a', b', c', (sIf_no (Eb.not (Eb.tr (show Ef _ _ (.bl true) _ from e) (k := true) rfl))).trans rfl⟩
theorem turnsI {mr : List Sl → R (D × List Sl)} (hr : RightOk mr) {x s : Sl} {rest : Ga} : ∀ (ds : List D) (a b c : Int) (z : Sl), ∃ a' b' c' z', loopF (bName 3) (hTurn mr) ds (x :: s :: Bg a b c :: z :: rest) = .ok (.next, x :: s :: Bg a' b' c' :: z' :: rest)
  | [], a, b, c, z => ⟨a, b, c, z, rfl⟩
  | d :: ds, a, b, c, z => by
    obtain ⟨a1, b1, c1, e1⟩ := turnI hr (x := x) (s := s) (z := .pu d) (rest := rest) (a := a) (b := b) (c := c)
    obtain ⟨a2, b2, c2, z2, e2⟩ := turnsI hr (x := x) (s := s) (rest := rest) ds a1 b1 c1 (.pu d)
    exact ⟨a2, b2, c2, z2, (loop_cons (γ1 := x :: s :: Bg a b c :: .pu d :: rest) rfl e1).trans e2⟩
theorem spotsI {mb mr : List Sl → R (D × List Sl)} (hb : BagOk mb) (hr : RightOk mr) {t : Nat} (ht : t < 1000) {ns : List Int} {rest : Ga} : ∀ (ss : List Nat) (u v z : Sl), ∃ u' v' z', loopF (bName 1) (hMany t mb mr) (ss.map fun s : Nat => D.int s) (.pu (.scr (ns.map .int)) :: u :: v :: z :: rest) = .ok (.next, .pu (.scr (ns.map .int)) :: u' :: v' :: z' :: rest)
  | [], u, v, z => ⟨u, v, z, rfl⟩
  | s :: ss, u, v, z => by
    obtain ⟨a, b, e⟩ := bag_new hb (ns := ns) (s := s) (γ := .pu (.scr (ns.map .int)) :: .pu (.int s) :: v :: z :: rest) rfl rfl
    obtain ⟨a1, b1, c1, z1, e1⟩ := turnsI hr (x := .pu (.scr (ns.map .int))) (s := .pu (.int s)) (rest := rest) (rng 0 t) a b 0 z
    obtain ⟨u2, v2, z2, e2⟩ := spotsI hb hr ht (ns := ns) (rest := rest) ss (.pu (.int s)) (Bg a1 b1 c1) z1
    have er : iRange rangeD1 (aCons (eC (.int t)) (aNil)) (.pu (.scr (ns.map .int)) :: .pu (.int s) :: Bg a b 0 :: z :: rest) = .ok (rng 0 t, .pu (.scr (ns.map .int)) :: .pu (.int s) :: Bg a b 0 :: z :: rest) := Ir.range (.cons Pv.c .nil) (rng_of t (by omega))
    have hd : Nx (hMany t mb mr) (.pu (.scr (ns.map .int)) :: .pu (.int s) :: v :: z :: rest) (.pu (.scr (ns.map .int)) :: .pu (.int s) :: Bg a1 b1 c1 :: z1 :: rest) :=
      .seq (γ1 := .pu (.scr (ns.map .int)) :: .pu (.int s) :: Bg a b 0 :: z :: rest) (Nx.new e) ((sFor_of er).trans e1)
    exact ⟨u2, v2, z2, (loop_cons (γ1 := .pu (.scr (ns.map .int)) :: .pu (.int s) :: v :: z :: rest) rfl hd).trans e2⟩
theorem says_many {m mb mr : List Sl → R (D × List Sl)} {k t x : Nat} {fin : Ga → R (Fl × Ga)} (hk : k < 1000) (ht : t < 1000) (hm : m = mDef 1 (3 + x) (sCons (sFor (iTurns k) (bName 1) (hMany t mb mr)) fin)) (hb : BagOk mb) (hr : RightOk mr)
    (hf : ∀ ds u v z, ∃ rest, fin (.pu (.scr ds) :: u :: v :: z :: List.replicate x .un) = .ok (.ret (.bl true), .pu (.scr ds) :: rest)) : Says 63 m := by
  intro ns hn
  obtain ⟨u, v, z, e1⟩ := spotsI hb hr ht (ns := ns) (rest := List.replicate x .un) (List.range (turns k ns.length)) .un .un .un
  obtain ⟨rest, e2⟩ := hf (ns.map .int) u v z
  have e : (sCons (sFor (iTurns k) (bName 1) (hMany t mb mr)) fin) (.pu (.scr (ns.map .int)) :: .un :: .un :: .un :: List.replicate x .un) = .ok (.ret (.bl true), .pu (.scr (ns.map .int)) :: rest) := by
    rw [sCons_next ((sFor_of (turns_ok k hk (γ := .pu (.scr (ns.map .int)) :: .un :: .un :: .un :: List.replicate x .un) rfl)).trans e1)]
    exact e2
  refine ⟨[.pu (.scr (ns.map .int))], ?_⟩
  subst hm
  unfold mDef
  rw [show 3 + x = x + 1 + 1 + 1 by omega]
  show ((sCons (sFor (iTurns k) (bName 1) (hMany t mb mr)) fin) (.pu (.scr (ns.map .int)) :: .un :: .un :: .un :: List.replicate x .un) >>= _) = _
  rw [e]
  rfl
namespace K89
open PySem
abbrev toldL : D := .lst [.tup [.str ABS, .int 1, .int 3], .tup [.str AT, .int 1], .bl true, .bl true]
theorem says : Says 63 m_law :=
  says_many (k := 3) (t := 4) (x := 1) (mb := mF__law_bag) (mr := m__law_right) (by decide) (by decide) rfl bag_ok right_ok fun ds u v z => ⟨[u, v, z, .pu toldL], by kernel_rfl⟩
end K89
end DL
end
section
set_option Elab.async false
set_option linter.all false
set_option maxRecDepth 100000
set_option maxHeartbeats 4000000
namespace DL
namespace K89
open PySem L2 Evl PySem.Spec PyProof.Rows LamX
theorem one_T (Pt : Addr) (q : Str) : ∀ p ∈ [(Pt, q)], p.1 = Pt → p.2 = q := fun p hp _ => by have := List.mem_singleton.mp hp; rw [this]
abbrev topS (i : Nat) : Stmt := PySem.Challenge.pw_upwide_k89_whole_presence_papers_judged.main.body.getD i (.Pass ⟨0, 0, 0, 0⟩)
structure Md (K : PySem.W.Frag) (mg : Str → Option Value) : Prop where
  d__law_bag : Df K mg "_law_bag" (topS 27)
  d__law_choose : Df K mg "_law_choose" (topS 29)
  d__law_drawn_word : Df K mg "_law_drawn_word" (topS 31)
  d__law_factors : Df K mg "_law_factors" (topS 32)
  d__law_is_whole : Df K mg "_law_is_whole" (topS 30)
  d__law_kinds : Df K mg "_law_kinds" (topS 33)
  d__law_part : Df K mg "_law_part" (topS 34)
  d__law_pull : Df K mg "_law_pull" (topS 28)
  d__law_right : Df K mg "_law_right" (topS 35)
  d_are_within : Df K mg "are_within" (topS 17)
  d_is_least_absent : Df K mg "is_least_absent" (topS 12)
  d_is_presence_paper : Df K mg "is_presence_paper" (topS 25)
  d_is_text_of : Df K mg "is_text_of" (topS 16)
  d_is_whole : Df K mg "is_whole" (topS 15)
  d_least_within : Df K mg "least_within" (topS 14)
  d_need_all : Df K mg "need_all" (topS 23)
  d_need_here : Df K mg "need_here" (topS 19)
  d_need_many : Df K mg "need_many" (topS 20)
  d_need_part : Df K mg "need_part" (topS 22)
  d_need_word_many : Df K mg "need_word_many" (topS 21)
  d_place_of : Df K mg "place_of" (topS 13)
  d_presence_paper : Df K mg "presence_paper" (topS 24)
  d_shows_place : Df K mg "shows_place" (topS 18)
  k_ABSENT : ∃ t, mg "ABSENT" = some (.str (strV [97, 98, 115, 101, 110, 116]) t)
  k_ALPHABET : ∃ t, mg "ALPHABET" = some (.str (strV [97, 98, 99, 100, 101, 102, 103, 104, 105, 106, 107, 108, 109, 110, 111, 112, 113, 114, 115, 116, 117, 118, 119, 120, 121, 122]) t)
  k_AT : ∃ t, mg "AT" = some (.str (strV [97, 116]) t)
  k_MOST_HERE : ∃ t, mg "MOST_HERE" = some (.int 24 t)
  k_MOST_LETTERS : ∃ t, mg "MOST_LETTERS" = some (.int 40 t)
  k_MOST_MANY : ∃ t, mg "MOST_MANY" = some (.int 26 t)
  e_NoLetter : Exk K mg "NoLetter"
  e_NoNumber : Exk K mg "NoNumber"
  e_NoWord : Exk K mg "NoWord"
  b_abs : mg "abs" = none
  b_all : mg "all" = none
  b_bool : mg "bool" = none
  b_int : mg "int" = none
  b_isinstance : mg "isinstance" = none
  b_len : mg "len" = none
  b_list : mg "list" = none
  b_max : mg "max" = none
  b_min : mg "min" = none
  b_range : mg "range" = none
  b_repr : mg "repr" = none
  b_sorted : mg "sorted" = none
  b_str : mg "str" = none
  b_tuple : mg "tuple" = none
section
variable {P : Program} {w : World} {K : PySem.W.Frag} {mg : Str → Option Value} {base : Heap} {T : List (Addr × Str)}
theorem scF__law_bag : FnScope ["script", "spot", "cell", "great", "mixed"] ["script", "spot"] (defScope (topS 27)) := ⟨rfl, rfl, rfl, by decide +kernel, rfl, by decide +kernel, by decide +kernel⟩
theorem okF__law_bag (M : Md K mg) : ClF P w K mg base T "_law_bag" 1 2 mF__law_bag :=
  cl_DF (k := 0) (h := hF__law_bag) M.d__law_bag scF__law_bag (fun _ _ _ _ _ _ us hl => match us, hl with | [_, _], _ => rfl) fun f cdv A outer s H E P0 σ0 B PO =>
  (esf_cons (es_set (i := 2) B.nd (by rfl) (by first | exact .inl rfl | exact .inr rfl) (ev_if (EvB.t (evb_cmp op_ltP os_lt (nomark _) (ev_var (pv 1)) (ev_callB cr_len cs_len (by rfl) M.b_len bt_len (ea_cons (ev_var (pv 0)) (ea_nil))))) (ev_callTy call_int1 cs_int (by rfl) M.b_int bt_int (ea_cons (ev_ix (ix_all (hu1 B.hu)) os_ix (ev_var (pv 0)) (ev_var (pv 1))) (ea_nil))) (ev_op op_addP os_add (ev_op op_mulP os_mul (ev_int) (ev_var (pv 1))) (ev_int))))
  (esf_cons (es_set (i := 3) B.nd (by rfl) (by first | exact .inl rfl | exact .inr rfl) (ev_op op_mod os_mod (ev_callTy call_int1 cs_int (by rfl) M.b_int bt_int (ea_cons (ev_callB call_abs cs_abs (by rfl) M.b_abs bt_abs (ea_cons (ev_var (pv 2)) (ea_nil))) (ea_nil))) (ev_op op_powW os_pow (ev_op op_powW os_pow (ev_int) (ev_int)) (ev_int))))
  (esf_cons (es_set (i := 4) B.nd (by rfl) (by first | exact .inl rfl | exact .inr rfl) (ev_op op_addP os_add (ev_op op_addP os_add (ev_op op_addP os_add (ev_op op_mulP os_mul (ev_op op_mod os_mod (ev_var (pv 3)) (ev_int)) (ev_int)) (ev_op op_mulP os_mul (ev_int) (ev_var (pv 1)))) (ev_op op_mulP os_mul (ev_int) (ev_callTy call_int1 cs_int (by rfl) M.b_int bt_int (ea_cons (EvB.v (evb_cmp op_ltP os_lt (nomark _) (ev_var (pv 2)) (ev_int))) (ea_nil))))) (ev_int)))
  (esf_ret ent_nil (ef_lst (ea_cons (ev_callB (cr_maxA B.calm) cs_max (by rfl) M.b_max bt_max (ea_cons (ev_int) (ea_cons (ev_op op_sub os_sub (ev_var (pv 3)) (ev_op op_powW os_pow (ev_int) (ev_int))) (ea_nil)))) (ea_cons (ev_var (pv 4)) (ea_cons (ev_int) (ea_nil)))))))) : EvSF (cxOf (L2.CX P w) P w K mg base ["script", "spot", "cell", "great", "mixed"] "_law_bag" (defScope (topS 27)) f cdv A outer s H E) (fun cls d _ H' => E cls d H') ⟨H, P0, σ0, [], T⟩ (defBody (topS 27)) (hF__law_bag))
theorem sc_is_text_of : FnScope ["value", "least", "most", "letter"] ["value", "least", "most"] (defScope (topS 16)) := ⟨rfl, rfl, rfl, by decide +kernel, rfl, by decide +kernel, by decide +kernel⟩
theorem ok_is_text_of (M : Md K mg) : Cl P w K mg base T "is_text_of" 1 [] 3 m_is_text_of :=
  cl_D (k := 0) (ms := []) (h := h_is_text_of) M.d_is_text_of sc_is_text_of (fun _ _ _ _ _ _ us hl => match us, hl with | [_, _, _], _ => rfl) fun f cdv A outer s H E P0 σ0 B PO =>
  (es_cons (es_if (EvW.t (EvW.or (EvT.not (EvT.truth (ev_isa (t := .str) (by rfl) M.b_isinstance (by rfl) M.b_str (ev_var (pv 0))))) (EvW.or1 (EvT.not (EvB.t (evb_chain (ev_var (pv 1)) (ech_link op_leP os_le (ev_callB cr_len cs_len (by rfl) M.b_len bt_len (ea_cons (ev_var (pv 0)) (ea_nil))) (ech_last op_leP os_le (ev_var (pv 2)))) (by with_unfolding_all rfl))))))) (es_one (es_ret (ev_bl))) (es_nil))
  (es_one (es_ret (ev_callB (cr_all B.calm) cs_all (by rfl) M.b_all bt_all (ea_cons (EvL.v (el_lc (own := [("letter", 3)]) B.calm B.nd (ei_any (ev_var (pv 0))) (blkOk_by (by kernel_rfl)) (by decide) (nomu_name) (fun _ _ _ _ _ => eg_name (i := 3) (pg_name (i := 3) B.nd (by rfl) (by first | exact .inl rfl | exact .inr rfl))) (fun _ _ _ _ _ => EvB.v (evb_cmp (op_mem B.hu) os_mem rfl (ev_var (pv 3)) (ev_gstr (s := [97, 98, 99, 100, 101, 102, 103, 104, 105, 106, 107, 108, 109, 110, 111, 112, 113, 114, 115, 116, 117, 118, 119, 120, 121, 122]) (by rfl) M.k_ALPHABET (by decide +kernel)))))) (ea_nil))))) : EvSs (cxOf (L2.CX P w) P w K mg base ["value", "least", "most", "letter"] "is_text_of" (defScope (topS 16)) f cdv A outer s H E) (fun cls d _ H' => E cls d H') ⟨H, P0, σ0, [], T⟩ (defBody (topS 16)) (h_is_text_of))
theorem sc_need_here : FnScope ["word"] ["word"] (defScope (topS 19)) := ⟨rfl, rfl, rfl, by decide +kernel, rfl, by decide +kernel, by decide +kernel⟩
theorem ok_need_here (M : Md K mg) (c_is_text_of : Cl P w K mg base T "is_text_of" 1 [] 3 m_is_text_of) : Cl P w K mg base T "need_here" 2 [] 1 m_need_here :=
  cl_D (k := 1) (ms := []) (h := h_need_here) M.d_need_here sc_need_here (fun _ _ _ _ _ _ us hl => match us, hl with | [_], _ => rfl) fun f cdv A outer s H E P0 σ0 B PO =>
  (es_one (es_if (EvT.not (EvT.truth (ev_cl c_is_text_of B.room (by decide) B.tk (by rfl) (ea_cons (ev_var (pv 0)) (ea_cons (ev_int) (ea_cons (ev_gint (i := 24) (by rfl) M.k_MOST_HERE) (ea_nil))))))) (es_one (es_raiseX B.calm B.tk M.e_NoWord (by rfl))) (es_nil)) : EvSs (cxOf (L2.CX P w) P w K mg base ["word"] "need_here" (defScope (topS 19)) f cdv A outer s H E) (fun cls d _ H' => E cls d H') ⟨H, P0, σ0, [], T⟩ (defBody (topS 19)) (h_need_here))
theorem sc_is_whole : FnScope ["value"] ["value"] (defScope (topS 15)) := ⟨rfl, rfl, rfl, by decide +kernel, rfl, by decide +kernel, by decide +kernel⟩
theorem ok_is_whole (M : Md K mg) : Cl P w K mg base T "is_whole" 1 [] 1 m_is_whole :=
  cl_D (k := 0) (ms := []) (h := h_is_whole) M.d_is_whole sc_is_whole (fun _ _ _ _ _ _ us hl => match us, hl with | [_], _ => rfl) fun f cdv A outer s H E P0 σ0 B PO =>
  (es_one (es_ret (ev_and (ev_isa (t := .int) (by rfl) M.b_isinstance (by rfl) M.b_int (ev_var (pv 0))) (ev_one (ev_not (ev_isa (t := .bool) (by rfl) M.b_isinstance (by rfl) M.b_bool (ev_var (pv 0))))))) : EvSs (cxOf (L2.CX P w) P w K mg base ["value"] "is_whole" (defScope (topS 15)) f cdv A outer s H E) (fun cls d _ H' => E cls d H') ⟨H, P0, σ0, [], T⟩ (defBody (topS 15)) (h_is_whole))
theorem sc_need_many : FnScope ["many"] ["many"] (defScope (topS 20)) := ⟨rfl, rfl, rfl, by decide +kernel, rfl, by decide +kernel, by decide +kernel⟩
theorem ok_need_many (M : Md K mg) (c_is_whole : Cl P w K mg base T "is_whole" 1 [] 1 m_is_whole) : Cl P w K mg base T "need_many" 2 [] 1 m_need_many :=
  cl_D (k := 1) (ms := []) (h := h_need_many) M.d_need_many sc_need_many (fun _ _ _ _ _ _ us hl => match us, hl with | [_], _ => rfl) fun f cdv A outer s H E P0 σ0 B PO =>
  (es_one (es_if (EvW.t (EvW.or (EvT.not (EvT.truth (ev_cl c_is_whole B.room (by decide) B.tk (by rfl) (ea_cons (ev_var (pv 0)) (ea_nil))))) (EvW.or1 (EvT.not (EvB.t (evb_chain (ev_int) (ech_link op_leP os_le (ev_var (pv 0)) (ech_last op_leP os_le (ev_gint (i := 26) (by rfl) M.k_MOST_MANY))) (by with_unfolding_all rfl))))))) (es_one (es_raiseX B.calm B.tk M.e_NoNumber (by rfl))) (es_nil)) : EvSs (cxOf (L2.CX P w) P w K mg base ["many"] "need_many" (defScope (topS 20)) f cdv A outer s H E) (fun cls d _ H' => E cls d H') ⟨H, P0, σ0, [], T⟩ (defBody (topS 20)) (h_need_many))
theorem sc_are_within : FnScope ["word", "many", "letter"] ["word", "many"] (defScope (topS 17)) := ⟨rfl, rfl, rfl, by decide +kernel, rfl, by decide +kernel, by decide +kernel⟩
theorem ok_are_within (M : Md K mg) : Cl P w K mg base T "are_within" 1 [] 2 m_are_within :=
  cl_D (k := 0) (ms := []) (h := h_are_within) M.d_are_within sc_are_within (fun _ _ _ _ _ _ us hl => match us, hl with | [_, _], _ => rfl) fun f cdv A outer s H E P0 σ0 B PO =>
  (es_one (es_ret (ev_callB (cr_all B.calm) cs_all (by rfl) M.b_all bt_all (ea_cons (EvL.v (el_lc (own := [("letter", 2)]) B.calm B.nd (ei_any (ev_var (pv 0))) (blkOk_by (by kernel_rfl)) (by decide) (nomu_name) (fun _ _ _ _ _ => eg_name (i := 2) (pg_name (i := 2) B.nd (by rfl) (by first | exact .inl rfl | exact .inr rfl))) (fun _ _ _ _ _ => EvB.v (evb_cmp (op_mem B.hu) os_mem rfl (ev_var (pv 2)) (ev_sl (ev_gstr (s := [97, 98, 99, 100, 101, 102, 103, 104, 105, 106, 107, 108, 109, 110, 111, 112, 113, 114, 115, 116, 117, 118, 119, 120, 121, 122]) (by rfl) M.k_ALPHABET (by decide +kernel)) eo_none (eo_some (ev_var (pv 1)))))))) (ea_nil)))) : EvSs (cxOf (L2.CX P w) P w K mg base ["word", "many", "letter"] "are_within" (defScope (topS 17)) f cdv A outer s H E) (fun cls d _ H' => E cls d H') ⟨H, P0, σ0, [], T⟩ (defBody (topS 17)) (h_are_within))
theorem sc_need_word_many : FnScope ["word", "many"] ["word", "many"] (defScope (topS 21)) := ⟨rfl, rfl, rfl, by decide +kernel, rfl, by decide +kernel, by decide +kernel⟩
theorem ok_need_word_many (M : Md K mg) (c_need_here : Cl P w K mg base T "need_here" 2 [] 1 m_need_here) (c_need_many : Cl P w K mg base T "need_many" 2 [] 1 m_need_many) (c_are_within : Cl P w K mg base T "are_within" 1 [] 2 m_are_within) : Cl P w K mg base T "need_word_many" 3 [] 2 m_need_word_many :=
  cl_D (k := 2) (ms := []) (h := h_need_word_many) M.d_need_word_many sc_need_word_many (fun _ _ _ _ _ _ us hl => match us, hl with | [_, _], _ => rfl) fun f cdv A outer s H E P0 σ0 B PO =>
  (es_cons (es_expr (ev_cl c_need_here B.room (by decide) B.tk (by rfl) (ea_cons (ev_var (pv 0)) (ea_nil))))
  (es_cons (es_expr (ev_cl c_need_many B.room (by decide) B.tk (by rfl) (ea_cons (ev_var (pv 1)) (ea_nil))))
  (es_one (es_if (EvT.not (EvT.truth (ev_cl c_are_within B.room (by decide) B.tk (by rfl) (ea_cons (ev_var (pv 0)) (ea_cons (ev_var (pv 1)) (ea_nil)))))) (es_one (es_raiseX B.calm B.tk M.e_NoLetter (by rfl))) (es_nil)))) : EvSs (cxOf (L2.CX P w) P w K mg base ["word", "many"] "need_word_many" (defScope (topS 21)) f cdv A outer s H E) (fun cls d _ H' => E cls d H') ⟨H, P0, σ0, [], T⟩ (defBody (topS 21)) (h_need_word_many))
theorem sc_need_part : FnScope ["part"] ["part"] (defScope (topS 22)) := ⟨rfl, rfl, rfl, by decide +kernel, rfl, by decide +kernel, by decide +kernel⟩
theorem ok_need_part (M : Md K mg) (c_is_text_of : Cl P w K mg base T "is_text_of" 1 [] 3 m_is_text_of) : Cl P w K mg base T "need_part" 2 [] 1 m_need_part :=
  cl_D (k := 1) (ms := []) (h := h_need_part) M.d_need_part sc_need_part (fun _ _ _ _ _ _ us hl => match us, hl with | [_], _ => rfl) fun f cdv A outer s H E P0 σ0 B PO =>
  (es_one (es_if (EvT.not (EvT.truth (ev_cl c_is_text_of B.room (by decide) B.tk (by rfl) (ea_cons (ev_var (pv 0)) (ea_cons (ev_int) (ea_cons (ev_gint (i := 40) (by rfl) M.k_MOST_LETTERS) (ea_nil))))))) (es_one (es_raiseX B.calm B.tk M.e_NoWord (by rfl))) (es_nil)) : EvSs (cxOf (L2.CX P w) P w K mg base ["part"] "need_part" (defScope (topS 22)) f cdv A outer s H E) (fun cls d _ H' => E cls d H') ⟨H, P0, σ0, [], T⟩ (defBody (topS 22)) (h_need_part))
theorem sc_need_all : FnScope ["word", "many", "part"] ["word", "many", "part"] (defScope (topS 23)) := ⟨rfl, rfl, rfl, by decide +kernel, rfl, by decide +kernel, by decide +kernel⟩
theorem ok_need_all (M : Md K mg) (c_need_word_many : Cl P w K mg base T "need_word_many" 3 [] 2 m_need_word_many) (c_need_part : Cl P w K mg base T "need_part" 2 [] 1 m_need_part) (c_are_within : Cl P w K mg base T "are_within" 1 [] 2 m_are_within) : Cl P w K mg base T "need_all" 4 [] 3 m_need_all :=
  cl_D (k := 3) (ms := []) (h := h_need_all) M.d_need_all sc_need_all (fun _ _ _ _ _ _ us hl => match us, hl with | [_, _, _], _ => rfl) fun f cdv A outer s H E P0 σ0 B PO =>
  (es_cons (es_expr (ev_cl c_need_word_many B.room (by decide) B.tk (by rfl) (ea_cons (ev_var (pv 0)) (ea_cons (ev_var (pv 1)) (ea_nil)))))
  (es_cons (es_expr (ev_cl c_need_part B.room (by decide) B.tk (by rfl) (ea_cons (ev_var (pv 2)) (ea_nil))))
  (es_one (es_if (EvT.not (EvT.truth (ev_cl c_are_within B.room (by decide) B.tk (by rfl) (ea_cons (ev_var (pv 2)) (ea_cons (ev_var (pv 1)) (ea_nil)))))) (es_one (es_raiseX B.calm B.tk M.e_NoLetter (by rfl))) (es_nil)))) : EvSs (cxOf (L2.CX P w) P w K mg base ["word", "many", "part"] "need_all" (defScope (topS 23)) f cdv A outer s H E) (fun cls d _ H' => E cls d H') ⟨H, P0, σ0, [], T⟩ (defBody (topS 23)) (h_need_all))
theorem sc_place_of : FnScope ["word", "part", "found", "place"] ["word", "part"] (defScope (topS 13)) := ⟨rfl, rfl, rfl, by decide +kernel, rfl, by decide +kernel, by decide +kernel⟩
theorem ok_place_of (M : Md K mg) : Cl P w K mg base T "place_of" 1 [] 2 m_place_of :=
  cl_D (k := 0) (ms := []) (h := h_place_of) M.d_place_of sc_place_of (fun _ _ _ _ _ _ us hl => match us, hl with | [_, _], _ => rfl) fun f cdv A outer s H E P0 σ0 B PO =>
  (es_cons (es_setL (i := 2) (by rfl) (by rfl) (el_lcif (own := [("place", 3)]) B.calm B.nd (ei_range1 (by rfl) M.b_range (ea_cons (ev_op op_addP os_add (ev_op op_sub os_sub (ev_callB cr_len cs_len (by rfl) M.b_len bt_len (ea_cons (ev_var (pv 0)) (ea_nil))) (ev_callB cr_len cs_len (by rfl) M.b_len bt_len (ea_cons (ev_var (pv 1)) (ea_nil)))) (ev_int)) (ea_nil))) (blkOk_by (by kernel_rfl)) (by decide) (nomu_name) (fun _ _ _ _ _ => eg_name (i := 3) (pg_name (i := 3) B.nd (by rfl) (by first | exact .inl rfl | exact .inr rfl))) (fun _ _ _ _ _ => EvB.t (evb_cmp (op_eqP B.hu) os_eq (nomark _) (ev_sl (ev_var (pv 0)) (eo_some (ev_var (pv 3))) (eo_some (ev_op op_addP os_add (ev_var (pv 3)) (ev_callB cr_len cs_len (by rfl) M.b_len bt_len (ea_cons (ev_var (pv 1)) (ea_nil)))))) (ev_var (pv 1)))) (fun _ _ _ _ _ => ev_var (pv 3))) (sw_true (by rfl) (by rfl) (by rfl) (by rfl)))
  (es_one (es_ret (ev_if (EvB.t (evb_cmp (op_neP B.hu) os_ne (nomark _) (ev_var (pv 2)) (EvF.ev (ef_lst (ea_nil))))) (ev_ix (ix_all (hu1 B.hu)) os_ix (ev_var (pv 2)) (ev_int)) (ev_non)))) : EvSs (cxOf (L2.CX P w) P w K mg base ["word", "part", "found", "place"] "place_of" (defScope (topS 13)) f cdv A outer s H E) (fun cls d _ H' => E cls d H') ⟨H, P0, σ0, [], T⟩ (defBody (topS 13)) (h_place_of))
theorem sc_least_within : FnScope ["word", "part", "end", "begin", "at"] ["word", "part"] (defScope (topS 14)) := ⟨rfl, rfl, rfl, by decide +kernel, rfl, by decide +kernel, by decide +kernel⟩
theorem ok_least_within (M : Md K mg) : Cl P w K mg base T "least_within" 1 [] 2 m_least_within :=
  cl_D (k := 0) (ms := []) (h := h_least_within) M.d_least_within sc_least_within (fun _ _ _ _ _ _ us hl => match us, hl with | [_, _], _ => rfl) fun f cdv A outer s H E P0 σ0 B PO =>
  (es_cons (es_set (i := 2) B.nd (by rfl) (by first | exact .inl rfl | exact .inr rfl) (ev_ix (ix_all (hu1 B.hu)) os_ix (EvL.v (el_lcif (own := [("at", 4)]) B.calm B.nd (ei_range1 (by rfl) M.b_range (ea_cons (ev_op op_addP os_add (ev_callB cr_len cs_len (by rfl) M.b_len bt_len (ea_cons (ev_var (pv 1)) (ea_nil))) (ev_int)) (ea_nil))) (blkOk_by (by kernel_rfl)) (by decide) (nomu_name) (fun _ _ _ _ _ => eg_name (i := 4) (pg_name (i := 4) B.nd (by rfl) (by first | exact .inl rfl | exact .inr rfl))) (fun _ _ _ _ _ => EvB.t (evb_cmp (op_notMem B.hu) os_notMem rfl (ev_sl (ev_var (pv 1)) eo_none (eo_some (ev_var (pv 4)))) (ev_var (pv 0)))) (fun _ _ _ _ _ => ev_var (pv 4)))) (ev_int)))
  (es_cons (es_set (i := 3) B.nd (by rfl) (by first | exact .inl rfl | exact .inr rfl) (ev_ix (ix_all (hu1 B.hu)) os_ix (EvL.v (el_lcif (own := [("at", 4)]) B.calm B.nd (ei_range1 (by rfl) M.b_range (ea_cons (ev_var (pv 2)) (ea_nil))) (blkOk_by (by kernel_rfl)) (by decide) (nomu_name) (fun _ _ _ _ _ => eg_name (i := 4) (pg_name (i := 4) B.nd (by rfl) (by first | exact .inl rfl | exact .inr rfl))) (fun _ _ _ _ _ => EvB.t (evb_cmp (op_notMem B.hu) os_notMem rfl (ev_sl (ev_var (pv 1)) (eo_some (ev_var (pv 4))) (eo_some (ev_var (pv 2)))) (ev_var (pv 0)))) (fun _ _ _ _ _ => ev_var (pv 4)))) (ev_un un_neg us_neg (ev_int))))
  (es_one (es_ret (ev_tup (ea_cons (ev_var (pv 3)) (ea_cons (ev_var (pv 2)) (ea_nil))))))) : EvSs (cxOf (L2.CX P w) P w K mg base ["word", "part", "end", "begin", "at"] "least_within" (defScope (topS 14)) f cdv A outer s H E) (fun cls d _ H' => E cls d H') ⟨H, P0, σ0, [], T⟩ (defBody (topS 14)) (h_least_within))
theorem sc_presence_paper : FnScope ["word", "many", "part", "place", "begin", "end"] ["word", "many", "part"] (defScope (topS 24)) := ⟨rfl, rfl, rfl, by decide +kernel, rfl, by decide +kernel, by decide +kernel⟩
theorem ok_presence_paper (M : Md K mg) (c_need_all : Cl P w K mg base T "need_all" 4 [] 3 m_need_all) (c_place_of : Cl P w K mg base T "place_of" 1 [] 2 m_place_of) (c_least_within : Cl P w K mg base T "least_within" 1 [] 2 m_least_within) : Cl P w K mg base T "presence_paper" 5 [] 3 m_presence_paper :=
  cl_D (k := 4) (ms := []) (h := h_presence_paper) M.d_presence_paper sc_presence_paper (fun _ _ _ _ _ _ us hl => match us, hl with | [_, _, _], _ => rfl) fun f cdv A outer s H E P0 σ0 B PO =>
  (es_cons (es_expr (ev_cl c_need_all B.room (by decide) B.tk (by rfl) (ea_cons (ev_var (pv 0)) (ea_cons (ev_var (pv 1)) (ea_cons (ev_var (pv 2)) (ea_nil))))))
  (es_cons (es_set (i := 3) B.nd (by rfl) (by first | exact .inl rfl | exact .inr rfl) (ev_cl c_place_of B.room (by decide) B.tk (by rfl) (ea_cons (ev_var (pv 0)) (ea_cons (ev_var (pv 2)) (ea_nil)))))
  (es_cons (es_if (EvB.t (evb_cmp op_isNotP os_isNot (nomark _) (ev_var (pv 3)) (ev_non))) (es_one (es_ret (ev_tup (ea_cons (ev_gstr (s := [97, 116]) (by rfl) M.k_AT (by decide +kernel)) (ea_cons (ev_var (pv 3)) (ea_nil)))))) (es_nil))
  (es_cons (es_asg (ev_cl c_least_within B.room (by decide) B.tk (by rfl) (ea_cons (ev_var (pv 0)) (ea_cons (ev_var (pv 2)) (ea_nil)))) (eg_tup B.calm (egs_cons (eg_name (i := 4) (pg_name (i := 4) B.nd (by rfl) (by first | exact .inl rfl | exact .inr rfl))) (egs_cons (eg_name (i := 5) (pg_name (i := 5) B.nd (by rfl) (by first | exact .inl rfl | exact .inr rfl))) (egs_nil)))))
  (es_one (es_ret (ev_tup (ea_cons (ev_gstr (s := [97, 98, 115, 101, 110, 116]) (by rfl) M.k_ABSENT (by decide +kernel)) (ea_cons (ev_var (pv 4)) (ea_cons (ev_var (pv 5)) (ea_nil)))))))))) : EvSs (cxOf (L2.CX P w) P w K mg base ["word", "many", "part", "place", "begin", "end"] "presence_paper" (defScope (topS 24)) f cdv A outer s H E) (fun cls d _ H' => E cls d H') ⟨H, P0, σ0, [], T⟩ (defBody (topS 24)) (h_presence_paper))
theorem sc_is_least_absent : FnScope ["word", "part"] ["word", "part"] (defScope (topS 12)) := ⟨rfl, rfl, rfl, by decide +kernel, rfl, by decide +kernel, by decide +kernel⟩
theorem ok_is_least_absent (M : Md K mg) : Cl P w K mg base T "is_least_absent" 1 [] 2 m_is_least_absent :=
  cl_D (k := 0) (ms := []) (h := h_is_least_absent) M.d_is_least_absent sc_is_least_absent (fun _ _ _ _ _ _ us hl => match us, hl with | [_, _], _ => rfl) fun f cdv A outer s H E P0 σ0 B PO =>
  (es_one (es_ret (ev_and (EvB.v (evb_cmp (op_notMem B.hu) os_notMem rfl (ev_var (pv 1)) (ev_var (pv 0)))) (ev_and (EvB.v (evb_cmp (op_mem B.hu) os_mem rfl (ev_sl (ev_var (pv 1)) (eo_some (ev_int)) eo_none) (ev_var (pv 0)))) (ev_one (EvB.v (evb_cmp (op_mem B.hu) os_mem rfl (ev_sl (ev_var (pv 1)) eo_none (eo_some (ev_un un_neg us_neg (ev_int)))) (ev_var (pv 0)))))))) : EvSs (cxOf (L2.CX P w) P w K mg base ["word", "part"] "is_least_absent" (defScope (topS 12)) f cdv A outer s H E) (fun cls d _ H' => E cls d H') ⟨H, P0, σ0, [], T⟩ (defBody (topS 12)) (h_is_least_absent))
theorem sc_shows_place : FnScope ["word", "part", "value"] ["word", "part", "value"] (defScope (topS 18)) := ⟨rfl, rfl, rfl, by decide +kernel, rfl, by decide +kernel, by decide +kernel⟩
theorem ok_shows_place (M : Md K mg) (c_is_whole : Cl P w K mg base T "is_whole" 1 [] 1 m_is_whole) : Cl P w K mg base T "shows_place" 2 [] 3 m_shows_place :=
  cl_D (k := 1) (ms := []) (h := h_shows_place) M.d_shows_place sc_shows_place (fun _ _ _ _ _ _ us hl => match us, hl with | [_, _, _], _ => rfl) fun f cdv A outer s H E P0 σ0 B PO =>
  (es_one (es_ret (ev_and (ev_cl c_is_whole B.room (by decide) B.tk (by rfl) (ea_cons (ev_var (pv 2)) (ea_nil))) (ev_and (EvB.v (evb_chain (ev_int) (ech_link op_leP os_le (ev_var (pv 2)) (ech_last op_leP os_le (ev_op op_sub os_sub (ev_callB cr_len cs_len (by rfl) M.b_len bt_len (ea_cons (ev_var (pv 0)) (ea_nil))) (ev_callB cr_len cs_len (by rfl) M.b_len bt_len (ea_cons (ev_var (pv 1)) (ea_nil)))))) (by with_unfolding_all rfl))) (ev_one (EvB.v (evb_cmp (op_eqP B.hu) os_eq (nomark _) (ev_sl (ev_var (pv 0)) (eo_some (ev_var (pv 2))) (eo_some (ev_op op_addP os_add (ev_var (pv 2)) (ev_callB cr_len cs_len (by rfl) M.b_len bt_len (ea_cons (ev_var (pv 1)) (ea_nil)))))) (ev_var (pv 1)))))))) : EvSs (cxOf (L2.CX P w) P w K mg base ["word", "part", "value"] "shows_place" (defScope (topS 18)) f cdv A outer s H E) (fun cls d _ H' => E cls d H') ⟨H, P0, σ0, [], T⟩ (defBody (topS 18)) (h_shows_place))
theorem sc_is_presence_paper : FnScope ["word", "many", "part", "value", "begin", "end", "one"] ["word", "many", "part", "value"] (defScope (topS 25)) := ⟨rfl, rfl, rfl, by decide +kernel, rfl, by decide +kernel, by decide +kernel⟩
theorem ok_is_presence_paper (M : Md K mg) (c_need_all : Cl P w K mg base T "need_all" 4 [] 3 m_need_all) (c_shows_place : Cl P w K mg base T "shows_place" 2 [] 3 m_shows_place) (c_is_whole : Cl P w K mg base T "is_whole" 1 [] 1 m_is_whole) (c_is_least_absent : Cl P w K mg base T "is_least_absent" 1 [] 2 m_is_least_absent) : Cl P w K mg base T "is_presence_paper" 5 [] 4 m_is_presence_paper :=
  cl_D (k := 4) (ms := []) (h := h_is_presence_paper) M.d_is_presence_paper sc_is_presence_paper (fun _ _ _ _ _ _ us hl => match us, hl with | [_, _, _, _], _ => rfl) fun f cdv A outer s H E P0 σ0 B PO =>
  (es_cons (es_expr (ev_cl c_need_all B.room (by decide) B.tk (by rfl) (ea_cons (ev_var (pv 0)) (ea_cons (ev_var (pv 1)) (ea_cons (ev_var (pv 2)) (ea_nil))))))
  (es_cons (es_if (EvW.t (EvW.or (EvT.not (EvT.truth (ev_isa (t := .tuple) (by rfl) M.b_isinstance (by rfl) M.b_tuple (ev_var (pv 3))))) (EvW.or (EvT.not (EvB.t (evb_chain (ev_int) (ech_link op_leP os_le (ev_callB cr_len cs_len (by rfl) M.b_len bt_len (ea_cons (ev_var (pv 3)) (ea_nil))) (ech_last op_leP os_le (ev_int))) (by with_unfolding_all rfl)))) (EvW.or1 (EvT.not (EvT.truth (ev_isa (t := .str) (by rfl) M.b_isinstance (by rfl) M.b_str (ev_ix (ix_all (hu1 B.hu)) os_ix (ev_var (pv 3)) (ev_int))))))))) (es_one (es_ret (ev_bl))) (es_nil))
  (es_cons (es_if (EvB.t (evb_cmp (op_eqP B.hu) os_eq (nomark _) (ev_ix (ix_all (hu1 B.hu)) os_ix (ev_var (pv 3)) (ev_int)) (ev_gstr (s := [97, 116]) (by rfl) M.k_AT (by decide +kernel)))) (es_one (es_ret (ev_and (EvB.v (evb_cmp (op_eqP B.hu) os_eq (nomark _) (ev_callB cr_len cs_len (by rfl) M.b_len bt_len (ea_cons (ev_var (pv 3)) (ea_nil))) (ev_int))) (ev_one (ev_cl c_shows_place B.room (by decide) B.tk (by rfl) (ea_cons (ev_var (pv 0)) (ea_cons (ev_var (pv 2)) (ea_cons (ev_ix (ix_all (hu1 B.hu)) os_ix (ev_var (pv 3)) (ev_int)) (ea_nil))))))))) (es_nil))
  (es_cons (es_if (EvW.t (EvW.or (EvB.t (evb_cmp (op_neP B.hu) os_ne (nomark _) (ev_ix (ix_all (hu1 B.hu)) os_ix (ev_var (pv 3)) (ev_int)) (ev_gstr (s := [97, 98, 115, 101, 110, 116]) (by rfl) M.k_ABSENT (by decide +kernel)))) (EvW.or (EvB.t (evb_cmp (op_neP B.hu) os_ne (nomark _) (ev_callB cr_len cs_len (by rfl) M.b_len bt_len (ea_cons (ev_var (pv 3)) (ea_nil))) (ev_int))) (EvW.or1 (EvT.not (EvT.truth (ev_callB (cr_all B.calm) cs_all (by rfl) M.b_all bt_all (ea_cons (EvL.v (el_lc (own := [("one", 6)]) B.calm B.nd (ei_any (ev_sl (ev_var (pv 3)) (eo_some (ev_int)) eo_none)) (blkOk_by (by kernel_rfl)) (by decide) (nomu_name) (fun _ _ _ _ _ => eg_name (i := 6) (pg_name (i := 6) B.nd (by rfl) (by first | exact .inl rfl | exact .inr rfl))) (fun _ _ _ _ _ => ev_cl c_is_whole B.room (by decide) takes_w0 (by rfl) (ea_cons (ev_var (pv 6)) (ea_nil))))) (ea_nil))))))))) (es_one (es_ret (ev_bl))) (es_nil))
  (es_cons (es_asg (ev_sl (ev_var (pv 3)) (eo_some (ev_int)) eo_none) (eg_tup B.calm (egs_cons (eg_name (i := 4) (pg_name (i := 4) B.nd (by rfl) (by first | exact .inl rfl | exact .inr rfl))) (egs_cons (eg_name (i := 5) (pg_name (i := 5) B.nd (by rfl) (by first | exact .inl rfl | exact .inr rfl))) (egs_nil)))))
  (es_one (es_ret (ev_and (EvB.v (evb_chain (ev_int) (ech_link op_leP os_le (ev_var (pv 4)) (ech_link op_ltP os_lt (ev_var (pv 5)) (ech_last op_leP os_le (ev_callB cr_len cs_len (by rfl) M.b_len bt_len (ea_cons (ev_var (pv 2)) (ea_nil)))))) (by with_unfolding_all rfl))) (ev_one (ev_cl c_is_least_absent B.room (by decide) B.tk (by rfl) (ea_cons (ev_var (pv 0)) (ea_cons (ev_sl (ev_var (pv 2)) (eo_some (ev_var (pv 4))) (eo_some (ev_var (pv 5)))) (ea_nil)))))))))))) : EvSs (cxOf (L2.CX P w) P w K mg base ["word", "many", "part", "value", "begin", "end", "one"] "is_presence_paper" (defScope (topS 25)) f cdv A outer s H E) (fun cls d _ H' => E cls d H') ⟨H, P0, σ0, [], T⟩ (defBody (topS 25)) (h_is_presence_paper))
theorem sc__law_pull : FnScope ["bag", "total", "found", "one", "two"] ["bag", "total"] (defScope (topS 28)) := ⟨rfl, rfl, rfl, by decide +kernel, rfl, by decide +kernel, by decide +kernel⟩
theorem ok__law_pull (M : Md K mg) : Cl P w K mg base T "_law_pull" 1 [0] 2 m__law_pull :=
  cl_D (k := 0) (ms := [0]) (h := h__law_pull) M.d__law_pull sc__law_pull (fun _ _ _ _ _ _ us hl => match us, hl with | [_, _], _ => rfl) fun f cdv A outer s H E P0 σ0 B PO =>
  (es_cons (es_if (EvB.t (evb_cmp op_gtP os_gt (nomark _) (ev_ix (ix_all (hu1 B.hu)) os_ix (ev_var (pv 0)) (ev_int)) (ev_int))) (es_cons (es_set (i := 2) B.nd (by rfl) (by first | exact .inl rfl | exact .inr rfl) (ev_op op_mod os_mod (ev_callTy call_int1 cs_int (by rfl) M.b_int bt_int (ea_cons (ev_ix (ix_all (hu1 B.hu)) os_ix (ev_var (pv 0)) (ev_int)) (ea_nil))) (ev_var (pv 1))))
  (es_cons (es_store (i := 0) B.hu (pv 0) (ev_int) (ev_op op_fdiv os_fdiv (ev_ix (ix_all (hu1 B.hu)) os_ix (ev_var (pv 0)) (ev_int)) (ev_var (pv 1))))
  (es_one (es_ret (ev_var (pv 2)))))) (es_nil))
  (es_cons (es_store (i := 0) B.hu (pv 0) (ev_int) (ev_op op_addP os_add (ev_ix (ix_all (hu1 B.hu)) os_ix (ev_var (pv 0)) (ev_int)) (ev_int)))
  (es_cons (es_set (i := 3) B.nd (by rfl) (by first | exact .inl rfl | exact .inr rfl) (ev_op op_mod os_mod (ev_callTy call_int1 cs_int (by rfl) M.b_int bt_int (ea_cons (ev_op op_addP os_add (ev_ix (ix_all (hu1 B.hu)) os_ix (ev_var (pv 0)) (ev_int)) (ev_op op_mulP os_mul (ev_int) (ev_ix (ix_all (hu1 B.hu)) os_ix (ev_var (pv 0)) (ev_int)))) (ea_nil))) (ev_int)))
  (es_cons (es_set (i := 4) B.nd (by rfl) (by first | exact .inl rfl | exact .inr rfl) (ev_op op_addP os_add (ev_op op_mulP os_mul (ev_op op_mod os_mod (ev_callTy call_int1 cs_int (by rfl) M.b_int bt_int (ea_cons (ev_op op_addP os_add (ev_op op_mulP os_mul (ev_var (pv 3)) (ev_var (pv 3))) (ev_op op_mulP os_mul (ev_int) (ev_ix (ix_all (hu1 B.hu)) os_ix (ev_var (pv 0)) (ev_int)))) (ea_nil))) (ev_int)) (ev_int)) (ev_var (pv 3))))
  (es_one (es_ret (ev_op op_mod os_mod (ev_callTy call_int1 cs_int (by rfl) M.b_int bt_int (ea_cons (ev_op op_fdiv os_fdiv (ev_var (pv 4)) (ev_int)) (ea_nil))) (ev_var (pv 1)))))))) : EvSs (cxOf (L2.CX P w) P w K mg base ["bag", "total", "found", "one", "two"] "_law_pull" (defScope (topS 28)) f cdv A outer s H E) (fun cls d _ H' => E cls d H') ⟨H, P0, σ0, [0], T⟩ (defBody (topS 28)) (h__law_pull))
theorem sc__law_choose : FnScope ["bag", "items"] ["bag", "items"] (defScope (topS 29)) := ⟨rfl, rfl, rfl, by decide +kernel, rfl, by decide +kernel, by decide +kernel⟩
theorem ok__law_choose (M : Md K mg) (c__law_pull : Cl P w K mg base T "_law_pull" 1 [0] 2 m__law_pull) : Cl P w K mg base T "_law_choose" 2 [0] 2 m__law_choose :=
  cl_D (k := 1) (ms := [0]) (h := h__law_choose) M.d__law_choose sc__law_choose (fun _ _ _ _ _ _ us hl => match us, hl with | [_, _], _ => rfl) fun f cdv A outer s H E P0 σ0 B PO =>
  (es_one (es_ret (ev_ix (ix_all (hu1 B.hu)) os_ix (ev_var (pv 1)) (ev_cl c__law_pull B.room (by decide) B.tk (by rfl) (ea_cons (ev_var (pv 0)) (ea_cons (ev_callB cr_len cs_len (by rfl) M.b_len bt_len (ea_cons (ev_var (pv 1)) (ea_nil))) (ea_nil)))))) : EvSs (cxOf (L2.CX P w) P w K mg base ["bag", "items"] "_law_choose" (defScope (topS 29)) f cdv A outer s H E) (fun cls d _ H' => E cls d H') ⟨H, P0, σ0, [0], T⟩ (defBody (topS 29)) (h__law_choose))
theorem sc__law_drawn_word : FnScope ["bag", "most", "kinds", "found", "size", "at", "turn"] ["bag", "most"] (defScope (topS 31)) := ⟨rfl, rfl, rfl, by decide +kernel, rfl, by decide +kernel, by decide +kernel⟩
theorem ok__law_drawn_word (M : Md K mg) (c__law_pull : Cl P w K mg base T "_law_pull" 1 [0] 2 m__law_pull) (c__law_choose : Cl P w K mg base T "_law_choose" 2 [0] 2 m__law_choose) : Cl P w K mg base T "_law_drawn_word" 3 [0] 2 m__law_drawn_word :=
  cl_D (k := 2) (ms := [0]) (h := h__law_drawn_word) M.d__law_drawn_word sc__law_drawn_word (fun _ _ _ _ _ _ us hl => match us, hl with | [_, _], _ => rfl) fun f cdv A outer s H E P0 σ0 B PO =>
  (es_cons (es_set (i := 2) B.nd (by rfl) (by first | exact .inl rfl | exact .inr rfl) (ev_sl (ev_text (s := [97, 98, 99]) (by kernel_rfl) (by kernel_rfl)) eo_none (eo_some (ev_op op_addP os_add (ev_int) (ev_cl c__law_pull B.room (by decide) B.tk (by rfl) (ea_cons (ev_var (pv 0)) (ea_cons (ev_int) (ea_nil))))))))
  (es_cons (es_set (i := 3) B.nd (by rfl) (by first | exact .inl rfl | exact .inr rfl) (ev_join (ev_text (s := []) (by kernel_rfl) (by kernel_rfl)) (ea_cons (EvL.v (el_lc (own := [("turn", 6)]) B.calm B.nd (ei_range1 (by rfl) M.b_range (ea_cons (ev_cl c__law_pull B.room (by decide) B.tk (by rfl) (ea_cons (ev_var (pv 0)) (ea_cons (ev_op op_addP os_add (ev_var (pv 1)) (ev_int)) (ea_nil)))) (ea_nil))) (blkOk_by (by kernel_rfl)) (by decide) (nomu_name) (fun _ _ _ _ _ => eg_name (i := 6) (pg_name (i := 6) B.nd (by rfl) (by first | exact .inl rfl | exact .inr rfl))) (fun _ _ _ _ _ => ev_cl c__law_choose B.room (by decide) takes_w0 (by rfl) (ea_cons (ev_var (pv 0)) (ea_cons (ev_var (pv 2)) (ea_nil)))))) ea_nil)))
  (es_cons (es_if (EvW.t (EvW.and (EvB.t (evb_cmp (op_neP B.hu) os_ne (nomark _) (ev_var (pv 3)) (ev_text (s := []) (by kernel_rfl) (by kernel_rfl)))) (EvW.and1 (EvB.t (evb_cmp (op_eqP B.hu) os_eq (nomark _) (ev_cl c__law_pull B.room (by decide) B.tk (by rfl) (ea_cons (ev_var (pv 0)) (ea_cons (ev_int) (ea_nil)))) (ev_int)))))) (es_cons (es_set (i := 4) B.nd (by rfl) (by first | exact .inl rfl | exact .inr rfl) (ev_op op_addP os_add (ev_int) (ev_cl c__law_pull B.room (by decide) B.tk (by rfl) (ea_cons (ev_var (pv 0)) (ea_cons (ev_callB (cr_minA B.calm) cs_min (by rfl) M.b_min bt_min (ea_cons (ev_int) (ea_cons (ev_callB cr_len cs_len (by rfl) M.b_len bt_len (ea_cons (ev_var (pv 3)) (ea_nil))) (ea_nil)))) (ea_nil))))))
  (es_cons (es_set (i := 3) B.nd (by rfl) (by first | exact .inl rfl | exact .inr rfl) (ev_sl (ev_op op_mulP os_mul (ev_sl (ev_var (pv 3)) eo_none (eo_some (ev_var (pv 4)))) (ev_var (pv 1))) eo_none (eo_some (ev_callB cr_len cs_len (by rfl) M.b_len bt_len (ea_cons (ev_var (pv 3)) (ea_nil))))))
  (es_one (es_if (EvB.t (evb_cmp (op_eqP B.hu) os_eq (nomark _) (ev_cl c__law_pull B.room (by decide) B.tk (by rfl) (ea_cons (ev_var (pv 0)) (ea_cons (ev_int) (ea_nil)))) (ev_int))) (es_cons (es_set (i := 5) B.nd (by rfl) (by first | exact .inl rfl | exact .inr rfl) (ev_cl c__law_pull B.room (by decide) B.tk (by rfl) (ea_cons (ev_var (pv 0)) (ea_cons (ev_callB cr_len cs_len (by rfl) M.b_len bt_len (ea_cons (ev_var (pv 3)) (ea_nil))) (ea_nil)))))
  (es_one (es_set (i := 3) B.nd (by rfl) (by first | exact .inl rfl | exact .inr rfl) (ev_op op_addP os_add (ev_op op_addP os_add (ev_sl (ev_var (pv 3)) eo_none (eo_some (ev_var (pv 5)))) (ev_cl c__law_choose B.room (by decide) B.tk (by rfl) (ea_cons (ev_var (pv 0)) (ea_cons (ev_text (s := [97, 98, 99]) (by kernel_rfl) (by kernel_rfl)) (ea_nil))))) (ev_sl (ev_var (pv 3)) (eo_some (ev_op op_addP os_add (ev_var (pv 5)) (ev_int))) eo_none))))) (es_nil))))) (es_nil))
  (es_one (es_ret (ev_var (pv 3)))))) : EvSs (cxOf (L2.CX P w) P w K mg base ["bag", "most", "kinds", "found", "size", "at", "turn"] "_law_drawn_word" (defScope (topS 31)) f cdv A outer s H E) (fun cls d _ H' => E cls d H') ⟨H, P0, σ0, [0], T⟩ (defBody (topS 31)) (h__law_drawn_word))
theorem sc__law_part : FnScope ["bag", "word", "way", "i", "found", "at"] ["bag", "word"] (defScope (topS 34)) := ⟨rfl, rfl, rfl, by decide +kernel, rfl, by decide +kernel, by decide +kernel⟩
theorem ok__law_part (M : Md K mg) (c__law_pull : Cl P w K mg base T "_law_pull" 1 [0] 2 m__law_pull) (c__law_drawn_word : Cl P w K mg base T "_law_drawn_word" 3 [0] 2 m__law_drawn_word) (c__law_choose : Cl P w K mg base T "_law_choose" 2 [0] 2 m__law_choose) : Cl P w K mg base T "_law_part" 4 [0] 2 m__law_part :=
  cl_D (k := 3) (ms := [0]) (h := h__law_part) M.d__law_part sc__law_part (fun _ _ _ _ _ _ us hl => match us, hl with | [_, _], _ => rfl) fun f cdv A outer s H E P0 σ0 B PO =>
  (es_cons (es_set (i := 2) B.nd (by rfl) (by first | exact .inl rfl | exact .inr rfl) (ev_cl c__law_pull B.room (by decide) B.tk (by rfl) (ea_cons (ev_var (pv 0)) (ea_cons (ev_int) (ea_nil)))))
  (es_cons (es_if (EvW.t (EvW.or (EvB.t (evb_cmp (op_eqP B.hu) os_eq (nomark _) (ev_var (pv 2)) (ev_int))) (EvW.or1 (EvB.t (evb_cmp (op_eqP B.hu) os_eq (nomark _) (ev_var (pv 1)) (ev_text (s := []) (by kernel_rfl) (by kernel_rfl))))))) (es_one (es_ret (ev_cl c__law_drawn_word B.room (by decide) B.tk (by rfl) (ea_cons (ev_var (pv 0)) (ea_cons (ev_int) (ea_nil)))))) (es_nil))
  (es_cons (es_set (i := 3) B.nd (by rfl) (by first | exact .inl rfl | exact .inr rfl) (ev_cl c__law_pull B.room (by decide) B.tk (by rfl) (ea_cons (ev_var (pv 0)) (ea_cons (ev_op op_addP os_add (ev_callB cr_len cs_len (by rfl) M.b_len bt_len (ea_cons (ev_var (pv 1)) (ea_nil))) (ev_int)) (ea_nil)))))
  (es_cons (es_set (i := 4) B.nd (by rfl) (by first | exact .inl rfl | exact .inr rfl) (ev_sl (ev_var (pv 1)) (eo_some (ev_var (pv 3))) (eo_some (ev_op op_addP os_add (ev_var (pv 3)) (ev_cl c__law_pull B.room (by decide) B.tk (by rfl) (ea_cons (ev_var (pv 0)) (ea_cons (ev_int) (ea_nil))))))))
  (es_cons (es_if (EvW.t (EvW.and (EvB.t (evb_cmp (op_eqP B.hu) os_eq (nomark _) (ev_var (pv 2)) (ev_int))) (EvW.and1 (EvB.t (evb_cmp (op_neP B.hu) os_ne (nomark _) (ev_var (pv 4)) (ev_text (s := []) (by kernel_rfl) (by kernel_rfl))))))) (es_cons (es_set (i := 5) B.nd (by rfl) (by first | exact .inl rfl | exact .inr rfl) (ev_cl c__law_pull B.room (by decide) B.tk (by rfl) (ea_cons (ev_var (pv 0)) (ea_cons (ev_callB cr_len cs_len (by rfl) M.b_len bt_len (ea_cons (ev_var (pv 4)) (ea_nil))) (ea_nil)))))
  (es_one (es_set (i := 4) B.nd (by rfl) (by first | exact .inl rfl | exact .inr rfl) (ev_op op_addP os_add (ev_op op_addP os_add (ev_sl (ev_var (pv 4)) eo_none (eo_some (ev_var (pv 5)))) (ev_cl c__law_choose B.room (by decide) B.tk (by rfl) (ea_cons (ev_var (pv 0)) (ea_cons (ev_text (s := [97, 98, 99]) (by kernel_rfl) (by kernel_rfl)) (ea_nil))))) (ev_sl (ev_var (pv 4)) (eo_some (ev_op op_addP os_add (ev_var (pv 5)) (ev_int))) eo_none))))) (es_nil))
  (es_one (es_ret (ev_var (pv 4)))))))) : EvSs (cxOf (L2.CX P w) P w K mg base ["bag", "word", "way", "i", "found", "at"] "_law_part" (defScope (topS 34)) f cdv A outer s H E) (fun cls d _ H' => E cls d H') ⟨H, P0, σ0, [0], T⟩ (defBody (topS 34)) (h__law_part))
theorem sc__law_factors : FnScope ["word", "found", "i", "j"] ["word"] (defScope (topS 32)) := ⟨rfl, rfl, rfl, by decide +kernel, rfl, by decide +kernel, by decide +kernel⟩
theorem ok__law_factors (M : Md K mg) : Cl P w K mg base T "_law_factors" 1 [] 1 m__law_factors :=
  cl_D (k := 0) (ms := []) (h := h__law_factors) M.d__law_factors sc__law_factors (fun _ _ _ _ _ _ us hl => match us, hl with | [_], _ => rfl) fun f cdv A outer s H E P0 σ0 B PO =>
  (es_cons (es_new (i := 1) (show 1 ∉ ([] : List Nat) from by decide) B.nd (by rfl) (by first | exact .inl rfl | exact .inr rfl) (ef_disp (epr_cons (ev_text (s := []) (by kernel_rfl) (by kernel_rfl)) (ev_bl) (epr_nil)) (by rfl) (by rfl) (by simp) (by decide)))
  (es_cons (es_for PO B.calm (ei_range1 (by rfl) M.b_range (ea_cons (ev_callB cr_len cs_len (by rfl) M.b_len bt_len (ea_cons (ev_var (pv 0)) (ea_nil))) (ea_nil))) (eg_name (i := 2) (pg_name (i := 2) B.nd (by rfl) (by first | exact .inl rfl | exact .inr rfl))) (es_one (es_for PO B.calm (ei_range2 (by rfl) M.b_range (ea_cons (ev_op op_addP os_add (ev_var (pv 2)) (ev_int)) (ea_cons (ev_op op_addP os_add (ev_callB cr_len cs_len (by rfl) M.b_len bt_len (ea_cons (ev_var (pv 0)) (ea_nil))) (ev_int)) (ea_nil)))) (eg_name (i := 3) (pg_name (i := 3) B.nd (by rfl) (by first | exact .inl rfl | exact .inr rfl))) (es_one (es_store (i := 1) B.hu (pv 1) (ev_sl (ev_var (pv 0)) (eo_some (ev_var (pv 2))) (eo_some (ev_var (pv 3)))) (ev_bl))))))
  (es_one (es_ret (EvF.ev (ef_callB (cr_sortedA B.calm) cf_sorted (by rfl) M.b_sorted bt_sorted (ea_cons (ev_var (pv 1)) (ea_nil))))))) : EvSs (cxOf (L2.CX P w) P w K mg base ["word", "found", "i", "j"] "_law_factors" (defScope (topS 32)) f cdv A outer s H E) (fun cls d _ H' => E cls d H') ⟨H, P0, σ0, [], T⟩ (defBody (topS 32)) (h__law_factors))
theorem sc__law_is_whole : FnScope ["value"] ["value"] (defScope (topS 30)) := ⟨rfl, rfl, rfl, by decide +kernel, rfl, by decide +kernel, by decide +kernel⟩
theorem ok__law_is_whole (M : Md K mg) : Cl P w K mg base T "_law_is_whole" 1 [] 1 m__law_is_whole :=
  cl_D (k := 0) (ms := []) (h := h__law_is_whole) M.d__law_is_whole sc__law_is_whole (fun _ _ _ _ _ _ us hl => match us, hl with | [_], _ => rfl) fun f cdv A outer s H E P0 σ0 B PO =>
  (es_one (es_ret (ev_and (ev_isa (t := .int) (by rfl) M.b_isinstance (by rfl) M.b_int (ev_var (pv 0))) (ev_one (ev_not (ev_isa (t := .bool) (by rfl) M.b_isinstance (by rfl) M.b_bool (ev_var (pv 0))))))) : EvSs (cxOf (L2.CX P w) P w K mg base ["value"] "_law_is_whole" (defScope (topS 30)) f cdv A outer s H E) (fun cls d _ H' => E cls d H') ⟨H, P0, σ0, [], T⟩ (defBody (topS 30)) (h__law_is_whole))
theorem sc__law_kinds : FnScope ["word", "part", "value", "every", "near", "one"] ["word", "part", "value"] (defScope (topS 33)) := ⟨rfl, rfl, rfl, by decide +kernel, rfl, by decide +kernel, by decide +kernel⟩
theorem ok__law_kinds (M : Md K mg) (c__law_factors : Cl P w K mg base T "_law_factors" 1 [] 1 m__law_factors) (c__law_is_whole : Cl P w K mg base T "_law_is_whole" 1 [] 1 m__law_is_whole) : Cl P w K mg base T "_law_kinds" 2 [] 3 m__law_kinds :=
  cl_D (k := 1) (ms := []) (h := h__law_kinds) M.d__law_kinds sc__law_kinds (fun _ _ _ _ _ _ us hl => match us, hl with | [_, _, _], _ => rfl) fun f cdv A outer s H E P0 σ0 B PO =>
  (es_cons (es_set (i := 3) B.nd (by rfl) (by first | exact .inl rfl | exact .inr rfl) (ev_cl c__law_factors B.room (by decide) B.tk (by rfl) (ea_cons (ev_var (pv 0)) (ea_nil))))
  (es_cons (es_if (EvW.t (EvW.or (EvT.not (EvT.truth (ev_isa (t := .tuple) (by rfl) M.b_isinstance (by rfl) M.b_tuple (ev_var (pv 2))))) (EvW.or (EvT.not (EvB.t (evb_chain (ev_int) (ech_link op_leP os_le (ev_callB cr_len cs_len (by rfl) M.b_len bt_len (ea_cons (ev_var (pv 2)) (ea_nil))) (ech_last op_leP os_le (ev_int))) (by with_unfolding_all rfl)))) (EvW.or1 (EvT.not (EvT.truth (ev_isa (t := .str) (by rfl) M.b_isinstance (by rfl) M.b_str (ev_ix (ix_all (hu1 B.hu)) os_ix (ev_var (pv 2)) (ev_int))))))))) (es_one (es_ret (EvF.ev (ef_lst (ea_cons (ev_bl) (ea_cons (ev_bl) (ea_nil))))))) (es_nil))
  (es_cons (es_if (EvB.t (evb_cmp (op_neP B.hu) os_ne (nomark _) (EvL.v (el_lcif (own := [("one", 5)]) B.calm B.nd (ei_any (ev_sl (ev_var (pv 2)) (eo_some (ev_int)) eo_none)) (blkOk_by (by kernel_rfl)) (by decide) (nomu_name) (fun _ _ _ _ _ => eg_name (i := 5) (pg_name (i := 5) B.nd (by rfl) (by first | exact .inl rfl | exact .inr rfl))) (fun _ _ _ _ _ => EvW.t (EvW.or (EvT.not (EvT.truth (ev_cl c__law_is_whole B.room (by decide) takes_w0 (by rfl) (ea_cons (ev_var (pv 5)) (ea_nil))))) (EvW.or1 (EvB.t (evb_cmp op_ltP os_lt (nomark _) (ev_var (pv 5)) (ev_int)))))) (fun _ _ _ _ _ => ev_int))) (EvF.ev (ef_lst (ea_nil))))) (es_one (es_ret (EvF.ev (ef_lst (ea_cons (ev_bl) (ea_cons (ev_bl) (ea_nil))))))) (es_nil))
  (es_cons (es_if (EvB.t (evb_cmp (op_eqP B.hu) os_eq (nomark _) (ev_ix (ix_all (hu1 B.hu)) os_ix (ev_var (pv 2)) (ev_int)) (ev_text (s := [97, 116]) (by kernel_rfl) (by kernel_rfl)))) (es_one (es_ret (EvF.ev (ef_lst (ea_cons (ev_and (EvB.v (evb_cmp (op_eqP B.hu) os_eq (nomark _) (ev_callB cr_len cs_len (by rfl) M.b_len bt_len (ea_cons (ev_var (pv 2)) (ea_nil))) (ev_int))) (ev_and (EvB.v (evb_cmp op_leP os_le (nomark _) (ev_op op_addP os_add (ev_ix (ix_all (hu1 B.hu)) os_ix (ev_var (pv 2)) (ev_int)) (ev_callB cr_len cs_len (by rfl) M.b_len bt_len (ea_cons (ev_var (pv 1)) (ea_nil)))) (ev_callB cr_len cs_len (by rfl) M.b_len bt_len (ea_cons (ev_var (pv 0)) (ea_nil))))) (ev_one (EvB.v (evb_cmp (op_eqP B.hu) os_eq (nomark _) (ev_sl (ev_var (pv 0)) (eo_some (ev_ix (ix_all (hu1 B.hu)) os_ix (ev_var (pv 2)) (ev_int))) (eo_some (ev_op op_addP os_add (ev_ix (ix_all (hu1 B.hu)) os_ix (ev_var (pv 2)) (ev_int)) (ev_callB cr_len cs_len (by rfl) M.b_len bt_len (ea_cons (ev_var (pv 1)) (ea_nil)))))) (ev_var (pv 1))))))) (ea_cons (ev_bl) (ea_nil))))))) (es_nil))
  (es_cons (es_if (EvW.t (EvW.or (EvB.t (evb_cmp (op_neP B.hu) os_ne (nomark _) (ev_ix (ix_all (hu1 B.hu)) os_ix (ev_var (pv 2)) (ev_int)) (ev_text (s := [97, 98, 115, 101, 110, 116]) (by kernel_rfl) (by kernel_rfl)))) (EvW.or (EvB.t (evb_cmp (op_neP B.hu) os_ne (nomark _) (ev_callB cr_len cs_len (by rfl) M.b_len bt_len (ea_cons (ev_var (pv 2)) (ea_nil))) (ev_int))) (EvW.or1 (EvT.not (EvB.t (evb_chain (ev_ix (ix_all (hu1 B.hu)) os_ix (ev_var (pv 2)) (ev_int)) (ech_link op_ltP os_lt (ev_ix (ix_all (hu1 B.hu)) os_ix (ev_var (pv 2)) (ev_int)) (ech_last op_leP os_le (ev_callB cr_len cs_len (by rfl) M.b_len bt_len (ea_cons (ev_var (pv 1)) (ea_nil))))) (by with_unfolding_all rfl)))))))) (es_one (es_ret (EvF.ev (ef_lst (ea_cons (ev_bl) (ea_cons (ev_bl) (ea_nil))))))) (es_nil))
  (es_cons (es_set (i := 4) B.nd (by rfl) (by first | exact .inl rfl | exact .inr rfl) (ev_sl (ev_var (pv 1)) (eo_some (ev_ix (ix_all (hu1 B.hu)) os_ix (ev_var (pv 2)) (ev_int))) (eo_some (ev_ix (ix_all (hu1 B.hu)) os_ix (ev_var (pv 2)) (ev_int)))))
  (es_one (es_ret (EvF.ev (ef_lst (ea_cons (ev_bl) (ea_cons (ev_and (EvB.v (evb_cmp (op_notMem B.hu) os_notMem rfl (ev_var (pv 4)) (ev_var (pv 3)))) (ev_and (EvB.v (evb_cmp (op_mem B.hu) os_mem rfl (ev_sl (ev_var (pv 4)) (eo_some (ev_int)) eo_none) (ev_var (pv 3)))) (ev_one (EvB.v (evb_cmp (op_mem B.hu) os_mem rfl (ev_sl (ev_var (pv 4)) eo_none (eo_some (ev_un un_neg us_neg (ev_int)))) (ev_var (pv 3))))))) (ea_nil)))))))))))) : EvSs (cxOf (L2.CX P w) P w K mg base ["word", "part", "value", "every", "near", "one"] "_law_kinds" (defScope (topS 33)) f cdv A outer s H E) (fun cls d _ H' => E cls d H') ⟨H, P0, σ0, [], T⟩ (defBody (topS 33)) (h__law_kinds))
theorem sc__law_right : FnScope ["bag", "word", "part", "does", "paper", "values", "i", "value", "shown", "at", "j"] ["bag"] (defScope (topS 35)) := ⟨rfl, rfl, rfl, by decide +kernel, rfl, by decide +kernel, by decide +kernel⟩
theorem ok__law_right (M : Md K mg) (c__law_drawn_word : Cl P w K mg base T "_law_drawn_word" 3 [0] 2 m__law_drawn_word) (c__law_part : Cl P w K mg base T "_law_part" 4 [0] 2 m__law_part) (c_presence_paper : Cl P w K mg base T "presence_paper" 5 [] 3 m_presence_paper) (c__law_factors : Cl P w K mg base T "_law_factors" 1 [] 1 m__law_factors) (c__law_kinds : Cl P w K mg base T "_law_kinds" 2 [] 3 m__law_kinds) (c_is_presence_paper : Cl P w K mg base T "is_presence_paper" 5 [] 4 m_is_presence_paper) : Cl P w K mg base T "_law_right" 6 [0] 1 m__law_right :=
  cl_D (k := 5) (ms := [0]) (h := h__law_right) M.d__law_right sc__law_right (fun _ _ _ _ _ _ us hl => match us, hl with | [_], _ => rfl) fun f cdv A outer s H E P0 σ0 B PO =>
  (es_cons (es_set (i := 1) B.nd (by rfl) (by first | exact .inl rfl | exact .inr rfl) (ev_cl c__law_drawn_word B.room (by decide) B.tk (by rfl) (ea_cons (ev_var (pv 0)) (ea_cons (ev_int) (ea_nil)))))
  (es_cons (es_set (i := 2) B.nd (by rfl) (by first | exact .inl rfl | exact .inr rfl) (ev_cl c__law_part B.room (by decide) B.tk (by rfl) (ea_cons (ev_var (pv 0)) (ea_cons (ev_var (pv 1)) (ea_nil)))))
  (es_cons (es_par2 (i := 3) (j := 4) B.calm B.nd (by rfl) (by rfl) (by decide) (show 3 ∉ ([0] : List Nat) from by decide) (show 4 ∉ ([0] : List Nat) from by decide) (by rfl) (by rfl) (ep_val (EvB.v (evb_cmp (op_mem B.hu) os_mem rfl (ev_var (pv 2)) (ev_cl c__law_factors B.room (by decide) B.tk (by rfl) (ea_cons (ev_var (pv 1)) (ea_nil))))) (ep_val (ev_cl c_presence_paper B.room (by decide) B.tk (by rfl) (ea_cons (ev_var (pv 1)) (ea_cons (ev_int) (ea_cons (ev_var (pv 2)) (ea_nil))))) (ep_nil))) (by rfl))
  (es_cons (es_if (EvB.t (evb_cmp (op_neP B.hu) os_ne (nomark _) (ev_cl c__law_kinds B.room (by decide) B.tk (by rfl) (ea_cons (ev_var (pv 1)) (ea_cons (ev_var (pv 2)) (ea_cons (ev_var (pv 4)) (ea_nil))))) (EvF.ev (ef_lst (ea_cons (ev_var (pv 3)) (ea_cons (ev_not (ev_var (pv 3))) (ea_nil))))))) (es_one (es_ret (ev_bl))) (es_nil))
  (es_cons (es_new (i := 5) (show 5 ∉ ([0] : List Nat) from by decide) B.nd (by rfl) (by first | exact .inl rfl | exact .inr rfl) (ef_lst (ea_cons (ev_var (pv 4)) (ea_cons (EvF.ev (ef_callTy (cr_listA B.calm) cf_list (by rfl) M.b_list bt_list (ea_cons (ev_var (pv 4)) (ea_nil)))) (ea_cons (ev_sl (ev_var (pv 4)) eo_none (eo_some (ev_int))) (ea_cons (ev_op op_addP os_add (ev_var (pv 4)) (ev_tup (ea_cons (ev_int) (ea_nil)))) (ea_cons (ev_rev (ev_var (pv 4))) (ea_cons (ev_non) (ea_cons (ev_tup (ea_nil)) (ea_cons (ev_int) (ea_cons (ev_text (s := [97, 116]) (by kernel_rfl) (by kernel_rfl)) (ea_cons (EvF.ev (ef_dnewK)) (ea_cons (ev_tup (ea_cons (ev_text (s := [97, 116]) (by kernel_rfl) (by kernel_rfl)) (ea_cons (ev_non) (ea_nil)))) (ea_cons (ev_tup (ea_cons (ev_text (s := [97, 116]) (by kernel_rfl) (by kernel_rfl)) (ea_cons (ev_bl) (ea_nil)))) (ea_cons (ev_tup (ea_cons (ev_text (s := [97, 98, 115, 101, 110, 116]) (by kernel_rfl) (by kernel_rfl)) (ea_cons (ev_int) (ea_nil)))) (ea_cons (ev_tup (ea_cons (ev_text (s := [97, 98, 115, 101, 110, 116]) (by kernel_rfl) (by kernel_rfl)) (ea_cons (ev_non) (ea_cons (ev_int) (ea_nil))))) (ea_cons (ev_tup (ea_cons (ev_text (s := [97, 98, 115, 101, 110, 116]) (by kernel_rfl) (by kernel_rfl)) (ea_cons (ev_int) (ea_cons (ev_bl) (ea_nil))))) (ea_cons (ev_tup (ea_cons (ev_text (s := [97, 116]) (by kernel_rfl) (by kernel_rfl)) (ea_cons (ev_callB cr_len cs_len (by rfl) M.b_len bt_len (ea_cons (ev_var (pv 1)) (ea_nil))) (ea_nil)))) (ea_cons (ev_tup (ea_cons (ev_text (s := [97, 116]) (by kernel_rfl) (by kernel_rfl)) (ea_cons (ev_int) (ea_cons (ev_int) (ea_nil))))) (ea_nil))))))))))))))))))))
  (es_cons (es_new (i := 5) (show 5 ∉ ([0] : List Nat) from by decide) B.nd (by rfl) (by first | exact .inl rfl | exact .inr rfl) (ev_opF op_addP of_addL (ev_var (pv 5)) (EvL.v (el_lc (own := [("at", 9)]) B.calm B.nd (ei_range2 (by rfl) M.b_range (ea_cons (ev_un un_neg us_neg (ev_int)) (ea_cons (ev_op op_addP os_add (ev_callB cr_len cs_len (by rfl) M.b_len bt_len (ea_cons (ev_var (pv 1)) (ea_nil))) (ev_int)) (ea_nil)))) (blkOk_by (by kernel_rfl)) (by decide) (nomu_name) (fun _ _ _ _ _ => eg_name (i := 9) (pg_name (i := 9) B.nd (by rfl) (by first | exact .inl rfl | exact .inr rfl))) (fun _ _ _ _ _ => ev_tup (ea_cons (ev_text (s := [97, 116]) (by kernel_rfl) (by kernel_rfl)) (ea_cons (ev_var (pv 9)) (ea_nil))))))))
  (es_cons (es_for PO B.calm (ei_range1 (by rfl) M.b_range (ea_cons (ev_op op_addP os_add (ev_callB cr_len cs_len (by rfl) M.b_len bt_len (ea_cons (ev_var (pv 2)) (ea_nil))) (ev_int)) (ea_nil))) (eg_name (i := 6) (pg_name (i := 6) B.nd (by rfl) (by first | exact .inl rfl | exact .inr rfl))) (es_one (es_expr (ev_mutV PySem.F.plainAttrs_list PySem.F.slot_list_extend PySem.F.type_list_extend mt_extend mv_extend (pv 5) (ea_cons (EvL.v (el_lc (own := [("j", 10)]) B.calm B.nd (ei_range1 (by rfl) M.b_range (ea_cons (ev_op op_addP os_add (ev_callB cr_len cs_len (by rfl) M.b_len bt_len (ea_cons (ev_var (pv 2)) (ea_nil))) (ev_int)) (ea_nil))) (blkOk_by (by kernel_rfl)) (by decide) (nomu_name) (fun _ _ _ _ _ => eg_name (i := 10) (pg_name (i := 10) B.nd (by rfl) (by first | exact .inl rfl | exact .inr rfl))) (fun _ _ _ _ _ => ev_tup (ea_cons (ev_text (s := [97, 98, 115, 101, 110, 116]) (by kernel_rfl) (by kernel_rfl)) (ea_cons (ev_var (pv 6)) (ea_cons (ev_var (pv 10)) (ea_nil))))))) (ea_nil))))))
  (es_cons (es_for PO B.calm (ei_any (ev_fz (pv 5) (show 5 ∉ ([0] : List Nat) from by decide))) (eg_name (i := 7) (pg_name (i := 7) B.nd (by rfl) (by first | exact .inl rfl | exact .inr rfl))) (es_cons (es_set (i := 8) B.nd (by rfl) (by first | exact .inl rfl | exact .inr rfl) (ev_cl c__law_kinds B.room (by decide) B.tk (by rfl) (ea_cons (ev_var (pv 1)) (ea_cons (ev_var (pv 2)) (ea_cons (ev_var (pv 7)) (ea_nil))))))
  (es_one (es_if (EvW.t (EvW.or (EvB.t (evb_cmp (op_neP B.hu) os_ne (nomark _) (ev_callB call_repr_bl cs_repr (by rfl) M.b_repr bt_repr (ea_cons (ev_cl c_is_presence_paper B.room (by decide) B.tk (by rfl) (ea_cons (ev_var (pv 1)) (ea_cons (ev_int) (ea_cons (ev_var (pv 2)) (ea_cons (ev_var (pv 7)) (ea_nil)))))) (ea_nil))) (ev_callB call_repr_bl cs_repr (by rfl) M.b_repr bt_repr (ea_cons (EvB.v (evb_cmp (op_mem B.hu) os_mem rfl (ev_bl) (ev_var (pv 8)))) (ea_nil))))) (EvW.or1 (EvB.t (evb_cmp (op_eqP B.hu) os_eq (nomark _) (ev_var (pv 8)) (EvF.ev (ef_lst (ea_cons (ev_not (ev_var (pv 3))) (ea_cons (ev_var (pv 3)) (ea_nil)))))))))) (es_one (es_ret (ev_bl))) (es_nil)))))
  (es_one (es_ret (ev_bl)))))))))) : EvSs (cxOf (L2.CX P w) P w K mg base ["bag", "word", "part", "does", "paper", "values", "i", "value", "shown", "at", "j"] "_law_right" (defScope (topS 35)) f cdv A outer s H E) (fun cls d _ H' => E cls d H') ⟨H, P0, σ0, [0], T⟩ (defBody (topS 35)) (h__law_right))
theorem sc_law : FnScope ["script", "spot", "bag", "turn", "told"] ["script"] (defScope (topS 36)) := ⟨rfl, rfl, rfl, by decide +kernel, rfl, by decide +kernel, by decide +kernel⟩
theorem ok_law (M : Md K mg) (cF__law_bag : ClF P w K mg base T "_law_bag" 1 2 mF__law_bag) (c__law_right : Cl P w K mg base T "_law_right" 6 [0] 1 m__law_right) (c_is_presence_paper : Cl P w K mg base T "is_presence_paper" 5 [] 4 m_is_presence_paper) (c_presence_paper : Cl P w K mg base T "presence_paper" 5 [] 3 m_presence_paper) {f : Addr} {fd : FuncData} (F : L2.Fun K "law" "law" (topS 36) f fd) : FnOk P w K mg base (L2.CX P w) 7 f fd ["script"] (spD K mg T [] 1 m_law) := by
  have z : FnOk P w K mg base (L2.CX P w) (6 + 1) f fd ["script"] (spD K mg T [] (["script"] : List Str).length (mDef (["script"] : List Str).length ((["script", "spot", "bag", "turn", "told"] : List Str).length - (["script"] : List Str).length) h_law)) := fn_law (k := 6) (ms := []) (h := h_law) F sc_law fun cdv A outer s H E P0 σ0 B PO =>
    (es_cons (es_for PO B.calm (ei_range1 (by rfl) M.b_range (ea_cons (ev_callB (cr_maxA B.calm) cs_max (by rfl) M.b_max bt_max (ea_cons (ev_int) (ea_cons (ev_callB (cr_minA B.calm) cs_min (by rfl) M.b_min bt_min (ea_cons (ev_int) (ea_cons (ev_callB cr_len cs_len (by rfl) M.b_len bt_len (ea_cons (ev_var (pv 0)) (ea_nil))) (ea_nil)))) (ea_nil)))) (ea_nil))) (eg_name (i := 1) (pg_name (i := 1) B.nd (by rfl) (by first | exact .inl rfl | exact .inr rfl))) (es_cons (es_new (i := 2) (show 2 ∉ ([] : List Nat) from by decide) B.nd (by rfl) (by first | exact .inl rfl | exact .inr rfl) (ef_cl cF__law_bag B.room (by decide) B.tk (by rfl) (ea_cons (ev_var (pv 0)) (ea_cons (ev_var (pv 1)) (ea_nil)))))
  (es_one (es_for PO B.calm (ei_range1 (by rfl) M.b_range (ea_cons (ev_int) (ea_nil))) (eg_name (i := 3) (pg_name (i := 3) B.nd (by rfl) (by first | exact .inl rfl | exact .inr rfl))) (es_one (es_if (EvT.not (EvT.truth (ev_cl c__law_right B.room (by decide) B.tk (by rfl) (ea_cons (ev_var (pv 2)) (ea_nil))))) (es_one (es_ret (ev_bl))) (es_nil)))))))
  (es_cons (es_set (i := 4) B.nd (by rfl) (by first | exact .inl rfl | exact .inr rfl) (EvF.ev (ef_lst (ea_cons (ev_cl c_presence_paper B.room (by decide) B.tk (by rfl) (ea_cons (ev_text (s := [97, 98, 97, 97, 98]) (by kernel_rfl) (by kernel_rfl)) (ea_cons (ev_int) (ea_cons (ev_text (s := [97, 98, 98, 97]) (by kernel_rfl) (by kernel_rfl)) (ea_nil))))) (ea_cons (ev_cl c_presence_paper B.room (by decide) B.tk (by rfl) (ea_cons (ev_text (s := [97, 98, 97, 97, 98]) (by kernel_rfl) (by kernel_rfl)) (ea_cons (ev_int) (ea_cons (ev_text (s := [98, 97, 97]) (by kernel_rfl) (by kernel_rfl)) (ea_nil))))) (ea_cons (ev_cl c_is_presence_paper B.room (by decide) B.tk (by rfl) (ea_cons (ev_text (s := [97, 98, 97, 97, 98]) (by kernel_rfl) (by kernel_rfl)) (ea_cons (ev_int) (ea_cons (ev_text (s := [97]) (by kernel_rfl) (by kernel_rfl)) (ea_cons (ev_tup (ea_cons (ev_text (s := [97, 116]) (by kernel_rfl) (by kernel_rfl)) (ea_cons (ev_int) (ea_nil)))) (ea_nil)))))) (ea_cons (ev_cl c_is_presence_paper B.room (by decide) B.tk (by rfl) (ea_cons (ev_text (s := []) (by kernel_rfl) (by kernel_rfl)) (ea_cons (ev_int) (ea_cons (ev_text (s := []) (by kernel_rfl) (by kernel_rfl)) (ea_cons (ev_tup (ea_cons (ev_text (s := [97, 116]) (by kernel_rfl) (by kernel_rfl)) (ea_cons (ev_int) (ea_nil)))) (ea_nil)))))) (ea_nil))))))))
  (es_one (es_ret (ev_and (EvB.v (evb_cmp (op_eqP B.hu) os_eq (nomark _) (ev_var (pv 4)) (EvF.ev (ef_lst (ea_cons (ev_tup (ea_cons (ev_text (s := [97, 98, 115, 101, 110, 116]) (by kernel_rfl) (by kernel_rfl)) (ea_cons (ev_int) (ea_cons (ev_int) (ea_nil))))) (ea_cons (ev_tup (ea_cons (ev_text (s := [97, 116]) (by kernel_rfl) (by kernel_rfl)) (ea_cons (ev_int) (ea_nil)))) (ea_cons (ev_bl) (ea_cons (ev_bl) (ea_nil))))))))) (ev_one (EvB.v (evb_cmp op_isP os_is (nomark _) (ev_cl c_is_presence_paper B.room (by decide) B.tk (by rfl) (ea_cons (ev_text (s := [97, 98]) (by kernel_rfl) (by kernel_rfl)) (ea_cons (ev_int) (ea_cons (ev_text (s := [97, 98, 99]) (by kernel_rfl) (by kernel_rfl)) (ea_cons (ev_tup (ea_cons (ev_text (s := [97, 98, 115, 101, 110, 116]) (by kernel_rfl) (by kernel_rfl)) (ea_cons (ev_int) (ea_cons (ev_int) (ea_nil))))) (ea_nil)))))) (ev_bl)))))))) : EvSs (cxOf (L2.CX P w) P w K mg base ["script", "spot", "bag", "turn", "told"] "law" (defScope (topS 36)) f cdv A outer s H E) (fun cls d _ H' => E cls d H') ⟨H, P0, σ0, [], T⟩ (defBody (topS 36)) (h_law))
  exact z
end
end K89
end DL
end
set_option Elab.async false
set_option linter.all false
set_option maxRecDepth 100000
set_option maxHeartbeats 0
namespace DL
namespace K89
open PySem L2 Evl PySem.Spec PyProof.Rows LamX
theorem all_ok {P : Program} {w : World} {K : PySem.W.Frag} {mg : Str → Option Value} {base : Heap} (M : Md K mg) {f : Addr} {fd : FuncData} (F : L2.Fun K "law" "law" (topS 36) f fd) : FnOk P w K mg base (L2.CX P w) 7 f fd ["script"] (spD K mg [] [] 1 m_law) := by
  have cF__law_bag := okF__law_bag (P := P) (w := w) (base := base) (T := []) M 
  have c_is_text_of := ok_is_text_of (P := P) (w := w) (base := base) (T := []) M 
  have c_need_here := ok_need_here (P := P) (w := w) (base := base) (T := []) M c_is_text_of
  have c_is_whole := ok_is_whole (P := P) (w := w) (base := base) (T := []) M 
  have c_need_many := ok_need_many (P := P) (w := w) (base := base) (T := []) M c_is_whole
  have c_are_within := ok_are_within (P := P) (w := w) (base := base) (T := []) M 
  have c_need_word_many := ok_need_word_many (P := P) (w := w) (base := base) (T := []) M c_need_here c_need_many c_are_within
  have c_need_part := ok_need_part (P := P) (w := w) (base := base) (T := []) M c_is_text_of
  have c_need_all := ok_need_all (P := P) (w := w) (base := base) (T := []) M c_need_word_many c_need_part c_are_within
  have c_place_of := ok_place_of (P := P) (w := w) (base := base) (T := []) M 
  have c_least_within := ok_least_within (P := P) (w := w) (base := base) (T := []) M 
  have c_presence_paper := ok_presence_paper (P := P) (w := w) (base := base) (T := []) M c_need_all c_place_of c_least_within
  have c_is_least_absent := ok_is_least_absent (P := P) (w := w) (base := base) (T := []) M 
  have c_shows_place := ok_shows_place (P := P) (w := w) (base := base) (T := []) M c_is_whole
  have c_is_presence_paper := ok_is_presence_paper (P := P) (w := w) (base := base) (T := []) M c_need_all c_shows_place c_is_whole c_is_least_absent
  have c__law_pull := ok__law_pull (P := P) (w := w) (base := base) (T := []) M 
  have c__law_choose := ok__law_choose (P := P) (w := w) (base := base) (T := []) M c__law_pull
  have c__law_drawn_word := ok__law_drawn_word (P := P) (w := w) (base := base) (T := []) M c__law_pull c__law_choose
  have c__law_part := ok__law_part (P := P) (w := w) (base := base) (T := []) M c__law_pull c__law_drawn_word c__law_choose
  have c__law_factors := ok__law_factors (P := P) (w := w) (base := base) (T := []) M 
  have c__law_is_whole := ok__law_is_whole (P := P) (w := w) (base := base) (T := []) M 
  have c__law_kinds := ok__law_kinds (P := P) (w := w) (base := base) (T := []) M c__law_factors c__law_is_whole
  have c__law_right := ok__law_right (P := P) (w := w) (base := base) (T := []) M c__law_drawn_word c__law_part c_presence_paper c__law_factors c__law_kinds c_is_presence_paper
  exact ok_law (T := []) M cF__law_bag c__law_right c_is_presence_paper c_presence_paper F
end K89
end DL
open PySem PySem.W PyProof.Rows
theorem PySem.Challenge.cw_upwide_k89_whole_presence_papers_judged_holds : PySem.Challenge.rw_upwide_k89_whole_presence_papers_judged.Holds := by
  w_on; o_law; k_head; (case hw => w_witness2)
  k_fill
  refine DL.walk_D (l := PySem.Challenge.rw_upwide_k89_whole_presence_papers_judged) (n := 63) (k := 7) (x := "script") (m := DL.K89.m_law) rfl (by decide) rfl ⟨rfl, by decide, by decide⟩ (fun w h Y => by first | exact PySem.W.kIn_of Y | exact PySem.W.km_in_of Y) ?says ?F
  case says => exact DL.K89.says
  case F =>
    intro w mg h Y KX G tabs
    have d__law_bag : DL.Df (L2.KOf KX) mg "_law_bag" (DL.K89.topS 27) := by
      refine' DL.Df.mk' KX G ?a ?l ?c ?k; (case a => k_is); (case l => k_is); (case c => k_is); (case k => k_is)
    have d__law_choose : DL.Df (L2.KOf KX) mg "_law_choose" (DL.K89.topS 29) := by
      refine' DL.Df.mk' KX G ?a ?l ?c ?k; (case a => k_is); (case l => k_is); (case c => k_is); (case k => k_is)
    have d__law_drawn_word : DL.Df (L2.KOf KX) mg "_law_drawn_word" (DL.K89.topS 31) := by
      refine' DL.Df.mk' KX G ?a ?l ?c ?k; (case a => k_is); (case l => k_is); (case c => k_is); (case k => k_is)
    have d__law_factors : DL.Df (L2.KOf KX) mg "_law_factors" (DL.K89.topS 32) := by
      refine' DL.Df.mk' KX G ?a ?l ?c ?k; (case a => k_is); (case l => k_is); (case c => k_is); (case k => k_is)
    have d__law_is_whole : DL.Df (L2.KOf KX) mg "_law_is_whole" (DL.K89.topS 30) := by
      refine' DL.Df.mk' KX G ?a ?l ?c ?k; (case a => k_is); (case l => k_is); (case c => k_is); (case k => k_is)
    have d__law_kinds : DL.Df (L2.KOf KX) mg "_law_kinds" (DL.K89.topS 33) := by
      refine' DL.Df.mk' KX G ?a ?l ?c ?k; (case a => k_is); (case l => k_is); (case c => k_is); (case k => k_is)
    have d__law_part : DL.Df (L2.KOf KX) mg "_law_part" (DL.K89.topS 34) := by
      refine' DL.Df.mk' KX G ?a ?l ?c ?k; (case a => k_is); (case l => k_is); (case c => k_is); (case k => k_is)
    have d__law_pull : DL.Df (L2.KOf KX) mg "_law_pull" (DL.K89.topS 28) := by
      refine' DL.Df.mk' KX G ?a ?l ?c ?k; (case a => k_is); (case l => k_is); (case c => k_is); (case k => k_is)
    have d__law_right : DL.Df (L2.KOf KX) mg "_law_right" (DL.K89.topS 35) := by
      refine' DL.Df.mk' KX G ?a ?l ?c ?k; (case a => k_is); (case l => k_is); (case c => k_is); (case k => k_is)
    have d_are_within : DL.Df (L2.KOf KX) mg "are_within" (DL.K89.topS 17) := by
      refine' DL.Df.mk' KX G ?a ?l ?c ?k; (case a => k_is); (case l => k_is); (case c => k_is); (case k => k_is)
    have d_is_least_absent : DL.Df (L2.KOf KX) mg "is_least_absent" (DL.K89.topS 12) := by
      refine' DL.Df.mk' KX G ?a ?l ?c ?k; (case a => k_is); (case l => k_is); (case c => k_is); (case k => k_is)
    have d_is_presence_paper : DL.Df (L2.KOf KX) mg "is_presence_paper" (DL.K89.topS 25) := by
      refine' DL.Df.mk' KX G ?a ?l ?c ?k; (case a => k_is); (case l => k_is); (case c => k_is); (case k => k_is)
    have d_is_text_of : DL.Df (L2.KOf KX) mg "is_text_of" (DL.K89.topS 16) := by
      refine' DL.Df.mk' KX G ?a ?l ?c ?k; (case a => k_is); (case l => k_is); (case c => k_is); (case k => k_is)
    have d_is_whole : DL.Df (L2.KOf KX) mg "is_whole" (DL.K89.topS 15) := by
      refine' DL.Df.mk' KX G ?a ?l ?c ?k; (case a => k_is); (case l => k_is); (case c => k_is); (case k => k_is)
    have d_least_within : DL.Df (L2.KOf KX) mg "least_within" (DL.K89.topS 14) := by
      refine' DL.Df.mk' KX G ?a ?l ?c ?k; (case a => k_is); (case l => k_is); (case c => k_is); (case k => k_is)
    have d_need_all : DL.Df (L2.KOf KX) mg "need_all" (DL.K89.topS 23) := by
      refine' DL.Df.mk' KX G ?a ?l ?c ?k; (case a => k_is); (case l => k_is); (case c => k_is); (case k => k_is)
    have d_need_here : DL.Df (L2.KOf KX) mg "need_here" (DL.K89.topS 19) := by
      refine' DL.Df.mk' KX G ?a ?l ?c ?k; (case a => k_is); (case l => k_is); (case c => k_is); (case k => k_is)
    have d_need_many : DL.Df (L2.KOf KX) mg "need_many" (DL.K89.topS 20) := by
      refine' DL.Df.mk' KX G ?a ?l ?c ?k; (case a => k_is); (case l => k_is); (case c => k_is); (case k => k_is)
    have d_need_part : DL.Df (L2.KOf KX) mg "need_part" (DL.K89.topS 22) := by
      refine' DL.Df.mk' KX G ?a ?l ?c ?k; (case a => k_is); (case l => k_is); (case c => k_is); (case k => k_is)
    have d_need_word_many : DL.Df (L2.KOf KX) mg "need_word_many" (DL.K89.topS 21) := by
      refine' DL.Df.mk' KX G ?a ?l ?c ?k; (case a => k_is); (case l => k_is); (case c => k_is); (case k => k_is)
    have d_place_of : DL.Df (L2.KOf KX) mg "place_of" (DL.K89.topS 13) := by
      refine' DL.Df.mk' KX G ?a ?l ?c ?k; (case a => k_is); (case l => k_is); (case c => k_is); (case k => k_is)
    have d_presence_paper : DL.Df (L2.KOf KX) mg "presence_paper" (DL.K89.topS 24) := by
      refine' DL.Df.mk' KX G ?a ?l ?c ?k; (case a => k_is); (case l => k_is); (case c => k_is); (case k => k_is)
    have d_shows_place : DL.Df (L2.KOf KX) mg "shows_place" (DL.K89.topS 18) := by
      refine' DL.Df.mk' KX G ?a ?l ?c ?k; (case a => k_is); (case l => k_is); (case c => k_is); (case k => k_is)
    have k_ABSENT : ∃ t, mg "ABSENT" = some (.str (DL.strV [97, 98, 115, 101, 110, 116]) t) := by
      refine' DL.k_str KX G ?a ?h; (case a => k_is); (case h => first | rfl | decide +kernel)
    have k_ALPHABET : ∃ t, mg "ALPHABET" = some (.str (DL.strV [97, 98, 99, 100, 101, 102, 103, 104, 105, 106, 107, 108, 109, 110, 111, 112, 113, 114, 115, 116, 117, 118, 119, 120, 121, 122]) t) := by
      refine' DL.k_str KX G ?a ?h; (case a => k_is); (case h => first | rfl | decide +kernel)
    have k_AT : ∃ t, mg "AT" = some (.str (DL.strV [97, 116]) t) := by
      refine' DL.k_str KX G ?a ?h; (case a => k_is); (case h => first | rfl | decide +kernel)
    have k_MOST_HERE : ∃ t, mg "MOST_HERE" = some (.int 24 t) := by
      refine' DL.k_int KX G ?a; (case a => k_is)
    have k_MOST_LETTERS : ∃ t, mg "MOST_LETTERS" = some (.int 40 t) := by
      refine' DL.k_int KX G ?a; (case a => k_is)
    have k_MOST_MANY : ∃ t, mg "MOST_MANY" = some (.int 26 t) := by
      refine' DL.k_int KX G ?a; (case a => k_is)
    have e_NoLetter : DL.Exk (L2.KOf KX) mg "NoLetter" := by
      refine' DL.Exk.mk' KX G ?a ?k ?e ?b ?t; (case a => k_is); (case k => k_is); (case e => first | kernel_rfl | k_exc); (case b => k_is); (case t => k_is)
    have e_NoNumber : DL.Exk (L2.KOf KX) mg "NoNumber" := by
      refine' DL.Exk.mk' KX G ?a ?k ?e ?b ?t; (case a => k_is); (case k => k_is); (case e => first | kernel_rfl | k_exc); (case b => k_is); (case t => k_is)
    have e_NoWord : DL.Exk (L2.KOf KX) mg "NoWord" := by
      refine' DL.Exk.mk' KX G ?a ?k ?e ?b ?t; (case a => k_is); (case k => k_is); (case e => first | kernel_rfl | k_exc); (case b => k_is); (case t => k_is)
    have b_abs : mg "abs" = none := PySem.W.mg_none_of KX G (by k_is)
    have b_all : mg "all" = none := PySem.W.mg_none_of KX G (by k_is)
    have b_bool : mg "bool" = none := PySem.W.mg_none_of KX G (by k_is)
    have b_int : mg "int" = none := PySem.W.mg_none_of KX G (by k_is)
    have b_isinstance : mg "isinstance" = none := PySem.W.mg_none_of KX G (by k_is)
    have b_len : mg "len" = none := PySem.W.mg_none_of KX G (by k_is)
    have b_list : mg "list" = none := PySem.W.mg_none_of KX G (by k_is)
    have b_max : mg "max" = none := PySem.W.mg_none_of KX G (by k_is)
    have b_min : mg "min" = none := PySem.W.mg_none_of KX G (by k_is)
    have b_range : mg "range" = none := PySem.W.mg_none_of KX G (by k_is)
    have b_repr : mg "repr" = none := PySem.W.mg_none_of KX G (by k_is)
    have b_sorted : mg "sorted" = none := PySem.W.mg_none_of KX G (by k_is)
    have b_str : mg "str" = none := PySem.W.mg_none_of KX G (by k_is)
    have b_tuple : mg "tuple" = none := PySem.W.mg_none_of KX G (by k_is)
    have M : DL.K89.Md (L2.KOf KX) mg := ⟨d__law_bag, d__law_choose, d__law_drawn_word, d__law_factors, d__law_is_whole, d__law_kinds, d__law_part, d__law_pull, d__law_right, d_are_within, d_is_least_absent, d_is_presence_paper, d_is_text_of, d_is_whole, d_least_within, d_need_all, d_need_here, d_need_many, d_need_part, d_need_word_many, d_place_of, d_presence_paper, d_shows_place, k_ABSENT, k_ALPHABET, k_AT, k_MOST_HERE, k_MOST_LETTERS, k_MOST_MANY, e_NoLetter, e_NoNumber, e_NoWord, b_abs, b_all, b_bool, b_int, b_isinstance, b_len, b_list, b_max, b_min, b_range, b_repr, b_sorted, b_str, b_tuple⟩
    obtain ⟨f, fd, hf, F⟩ : ∃ (f : Addr) (fd : FuncData), mg "law" = some (.ref f) ∧ L2.Fun (L2.KOf KX) "law" "law" (DL.K89.topS 36) f fd := by
      refine' (DL.Df.mk' KX G ?a ?l ?c ?k).ex; (case a => k_is); (case l => k_is); (case c => k_is); (case k => k_is)
    exact ⟨[], fun p hp => (by cases hp), fun p hp => (by cases hp), fun p hp => (by cases hp), f, fd, hf, DL.fun_binds1 F (fun _ _ _ _ _ _ _ => rfl), fun base b1 b2 b3 => DL.K89.all_ok M F⟩
